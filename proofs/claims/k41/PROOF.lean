import PyProof.Rows.All
import Wide.All
import OpenK.AllK
import Wide.FinOn
import HandS.ForMost
import HandS.Text
import HandS.List
import HandS.Exc
import HandS.ExcOwn
import HandS.CallSlots
import HandS.WordsExc
import HandS.Flow
import HandS.IsInst
import HandS.TupAny
import HandS.TupLe
import HandS.Walk
import PyProof.Rows.IntBool
import HandS.Style
import HandS.Strs
import KE.GoesMore
import HandS.Zip
import KE.GoesEnum
import HandS.More
import HandS.Defaults
import HandS.HeadHook2
import HandS.HeadEnd
import HandS.Head0
import HandS.Head1
import HandS.Head2
import HandS.HeadHook1
import KE.KStateDown
import PySem.Challenge.RW_tablequest_k41_odd_questions
set_option Elab.async false
set_option linter.all false
set_option maxRecDepth 100000
set_option maxHeartbeats 0
/-! Tq, part A: plain values, a small language IE / IS, its evaluator. -/
namespace Tq
open PySem L2

abbrev D := PyData

inductive Res (α : Type) where
  | ok (a : α)
  | exc (c : Str) (fs : List D)
  | bad
namespace Res
variable {α β : Type}
def bind (r : Res α) (f : α → Res β) : Res β := match r with
  | .ok a => f a
  | .exc c fs => .exc c fs
  | .bad => .bad
@[simp] theorem bind_ok (a : α) (f : α → Res β) : (Res.ok a).bind f = f a := rfl
@[simp] theorem bind_exc (c : Str) (fs : List D) (f : α → Res β) : (Res.exc c fs : Res α).bind f = .exc c fs := rfl
@[simp] theorem bind_bad (f : α → Res β) : (Res.bad : Res α).bind f = .bad := rfl
/-- an exception is not let by -/
def tame (r : Res α) : Res α := match r with
  | .ok a => .ok a
  | _ => .bad
@[simp] theorem tame_ok (a : α) : (Res.ok a).tame = .ok a := rfl
end Res
open Res

abbrev En := List (Option D)

/-! ### the language -/
inductive Op1 where
  | neg | not | len | tuple | list | any | all | sum | least | most | int | bool | str | upper | lenSet | sortSet | sorted | dict | rev
  deriving DecidableEq
inductive Op2 where
  | add | sub | mul | mod | fdiv | pow | eq | ne | lt | le | gt | ge | is | isnot | in_ | notin | idx | fm | to | min2 | max2 | index | join | count
  deriving DecidableEq
inductive Op3 where
  | sl | get | replace
  deriving DecidableEq
inductive Ty where
  | int | str | bool | tuple | list | intstr
  deriving DecidableEq
mutual
inductive Tg where
  | nm (i : Nat)
  | tu (ts : Tgs)
inductive Tgs where
  | nil
  | cons (t : Tg) (ts : Tgs)
end
mutual
inductive IE where
  | bad
  | var (i : Nat)
  | non
  | bl (b : Bool)
  | int (i : Int)
  | str (x : Str)
  | glob (x : Str) (d : D)
  | tup (es : IEs)
  | lst (es : IEs)
  | dsp (ks : List Str) (es : IEs)
  | o1 (op : Op1) (a : IE)
  | o2 (op : Op2) (a b : IE)
  | o3 (op : Op3) (a b c : IE)
  | isi (a : IE) (t : Ty)
  | and_ (a b : IE)
  | or_ (a b : IE)
  | ifE (c a b : IE)
  | chain (o p : Op2) (a b c : IE)
  | call (f : Nat) (es : IEs)
  | comp (t : Tg) (it : IT) (elt : IE)
  | compIf (t : Tg) (it : IT) (c elt : IE)
  | compK (i : Nat) (a elt : IE)
  | compKIf (i : Nat) (a c elt : IE)
inductive IEs where
  | nil
  | cons (e : IE) (es : IEs)
inductive IT where
  | seq (e : IE)
  | rng1 (a : IE)
  | rng2 (a b : IE)
  | enum (e : IE)
  | zip (a b : IE)
  | rev (e : IE)
end

/-! ### what the operations come to -/
def fits (n : Nat) : Bool := decide (n ≤ sizeLine)
def truth : D → Res Bool
  | .none => .ok false
  | .bool b => .ok b
  | .int i => .ok (i != 0)
  | .str s => .ok (s.length != 0)
  | .list xs => .ok (!xs.isEmpty)
  | .tuple xs => .ok (!xs.isEmpty)
  | .dict _ => .bad
def boolsD : List D → Option (List Bool)
  | [] => some []
  | .bool b :: r => (boolsD r).map (b :: ·)
  | _ :: _ => none
def intsD : List D → Option (List Int)
  | [] => some []
  | .int i :: r => (intsD r).map (i :: ·)
  | _ :: _ => none
def strsD : List D → Option (List Str)
  | [] => some []
  | .str x :: r => (strsD r).map (x :: ·)
  | _ :: _ => none
def isTy : D → Ty → Bool
  | .int _, .int => true
  | .bool _, .int => true
  | .bool _, .bool => true
  | .str _, .str => true
  | .tuple _, .tuple => true
  | .list _, .list => true
  | .int _, .intstr => true
  | .bool _, .intstr => true
  | .str _, .intstr => true
  | _, _ => false
def isiD (t : Ty) : D → Res D
  | .dict _ => .bad
  | d => .ok (.bool (isTy d t))
def lenD : D → Res D
  | .str s => .ok (.int s.length)
  | .list xs => .ok (.int xs.length)
  | .tuple xs => .ok (.int xs.length)
  | .dict [(.none, .list xs)] => .ok (.int xs.length)
  | _ => .bad
def tupleD : D → Res D
  | .list xs => .ok (.tuple xs)
  | .tuple xs => .ok (.tuple xs)
  | _ => .bad
def listD : D → Res D
  | .list xs => .ok (.list xs)
  | .tuple xs => .ok (.list xs)
  | _ => .bad
def anyD : D → Res D
  | .list xs => match boolsD xs with | some bs => .ok (.bool (bs.any id)) | none => .bad
  | _ => .bad
def allD : D → Res D
  | .list xs => match boolsD xs with | some bs => .ok (.bool (bs.all id)) | none => .bad
  | _ => .bad
def negD : D → Res D
  | .int i => .ok (.int (-i))
  | _ => .bad
def intD : D → Res D
  | .bool b => .ok (.int (if b then 1 else 0))
  | .int i => .ok (.int i)
  | _ => .bad
def upperD : D → Res D
  | .str x => if decide (x.length ≤ 5592405) && fits (Txt.upper x).length && PyData.strOk (Txt.upper x) then .ok (.str (Txt.upper x)) else .bad
  | _ => .bad
/-- the unlike ones, as first met -/
def unlike (xs : List Str) : List Str := xs.foldl (fun acc x => if acc.any (· == x) then acc else acc ++ [x]) []
def lenSetL (ds : List D) : Res D := match strsD ds with | some xs => if decide (xs.length ≤ 1000) then .ok (.int (unlike xs).length) else .bad | none => .bad
def lenSetD : D → Res D
  | .list ds => lenSetL ds
  | .tuple ds => lenSetL ds
  | _ => .bad
def revD : D → Res D
  | .list xs => .ok (.list xs.reverse)
  | .tuple xs => .ok (.tuple xs.reverse)
  | _ => .bad
def notD (d : D) : Res D := (truth d).bind fun b => .ok (.bool (!b))
def op1 : Op1 → D → Res D
  | .neg => negD
  | .not => notD
  | .len => lenD
  | .tuple => tupleD
  | .list => listD
  | .any => anyD
  | .all => allD
  | .int => intD
  | .upper => upperD
  | .lenSet => lenSetD
  | .rev => revD
  | _ => fun _ => .bad
/-! no dict within -/
mutual
def noDict : D → Bool
  | .none | .bool _ | .int _ | .str _ => true
  | .list xs | .tuple xs => noDicts xs
  | .dict _ => false
def noDicts : List D → Bool
  | [] => true
  | x :: xs => noDict x && noDicts xs
end
/-- == is asked of data that is shallow on one side -/
def eqOk (a b : D) : Bool := noDict a && noDict b && decide (min a.depth b.depth ≤ 60)
def inOk (a : D) (ds : List D) : Bool := noDict a && noDicts ds && decide (min (PyData.depthAll ds) a.depth ≤ 60)
def b2i (b : Bool) : Int := if b = true then 1 else 0
def addD : D → D → Res D
  | .bool a, .int j => .ok (.int (b2i a + j))
  | .int i, .int j => .ok (.int (i + j))
  | .str x, .str y => if fits (x.length + y.length) then .ok (.str (x ++ y)) else .bad
  | .list x, .list y => if fits (x.length + y.length) then .ok (.list (x ++ y)) else .bad
  | .tuple x, .tuple y => if fits (x.length + y.length) then .ok (.tuple (x ++ y)) else .bad
  | _, _ => .bad
def int2D (f : Int → Int → Res D) : D → D → Res D
  | .int i, .int j => f i j
  | _, _ => .bad
def subD : D → D → Res D
  | .bool a, .int j => .ok (.int (b2i a - j))
  | .int i, .bool b => .ok (.int (i - b2i b))
  | .int i, .int j => .ok (.int (i - j))
  | _, _ => .bad
def mulOk (i j : Int) : Bool := decide ((-(2 ^ 64) < i ∧ i < 2 ^ 64) ∨ (-(2 ^ 64) < j ∧ j < 2 ^ 64))
def repOk (n : Nat) (k : Int) : Bool := decide (0 ≤ k ∧ k ≤ 1000 ∧ n ≤ 1000)
def mulD : D → D → Res D
  | .bool a, .int j => .ok (.int (b2i a * j))
  | .int i, .int j => if mulOk i j then .ok (.int (i * j)) else .bad
  | .list xs, .int k => if repOk xs.length k then .ok (.list (List.replicate k.toNat xs).flatten) else .bad
  | .str x, .int k => if repOk x.length k then .ok (.str ⟨(List.replicate k.toNat x.cps).foldl (· ++ ·) #[]⟩) else .bad
  | _, _ => .bad
def modD : D → D → Res D := int2D fun i j => if decide (0 < j) then .ok (.int (i % j)) else .bad
def powD : D → D → Res D := int2D fun i j => if decide (0 ≤ j ∧ j ≤ 1000000 ∧ i.natAbs < 2 ^ 64) then .ok (.int (i ^ j.toNat)) else .bad
def eqD (a b : D) : Res D := if eqOk a b then .ok (.bool (PyData.eqv a b)) else .bad
def neD (a b : D) : Res D := if eqOk a b then .ok (.bool (!PyData.eqv a b)) else .bad
def ltD : D → D → Res D
  | .int i, .int j => .ok (.bool (decide (i < j)))
  | .str x, .str y => .ok (.bool (decide (x.cps.toList < y.cps.toList)))
  | _, _ => .bad
def leD : D → D → Res D
  | .int i, .int j => .ok (.bool (decide (i ≤ j)))
  | .str x, .str y => .ok (.bool (!decide (y.cps.toList < x.cps.toList)))
  | _, _ => .bad
def gtD : D → D → Res D
  | .int i, .int j => .ok (.bool (decide (j < i)))
  | .str x, .str y => .ok (.bool (decide (y.cps.toList < x.cps.toList)))
  | _, _ => .bad
def geD : D → D → Res D
  | .int i, .int j => .ok (.bool (decide (j ≤ i)))
  | .str x, .str y => .ok (.bool (!decide (x.cps.toList < y.cps.toList)))
  | _, _ => .bad
/-! dicts with texts as keys -/
def lookD (k : Str) : List (D × D) → Option D
  | [] => none
  | (.str x, v) :: r => if x = k then some v else lookD k r
  | _ :: _ => none
def keyIs (k : Str) : D → Bool
  | .str x => decide (x = k)
  | _ => false
def putD (k : Str) (v : D) (kvs : List (D × D)) : List (D × D) :=
  if (lookD k kvs).isSome then kvs.map fun p => if keyIs k p.1 then (p.1, v) else p else kvs ++ [(.str k, v)]
def keysD : List (D × D) → Option (List D)
  | [] => some []
  | (.str x, _) :: r => (keysD r).map (.str x :: ·)
  | _ :: _ => none
def isKeyed (kvs : List (D × D)) : Bool := (keysD kvs).isSome
def isNone : D → Bool
  | .none => true
  | _ => false
def isBool (b : Bool) : D → Bool
  | .bool c => c == b
  | _ => false
def isD (a : D) : D → Res D
  | .none => .ok (.bool (isNone a))
  | .bool b => .ok (.bool (isBool b a))
  | _ => .bad
def isnotD (a : D) : D → Res D
  | .none => .ok (.bool (!isNone a))
  | .bool b => .ok (.bool (!isBool b a))
  | _ => .bad
def inSeq (a : D) (ds : List D) : Res Bool := if inOk a ds then .ok (ds.any fun z => PyData.eqv z a) else .bad
def inStr (y : Str) : D → Res Bool
  | .str x => if decide (x.length = 1) then .ok (decide (x.cps.getD 0 0 ∈ y.cps.toList)) else .bad
  | _ => .bad
def inDict (kvs : List (D × D)) : D → Res Bool
  | .str k => if isKeyed kvs then .ok (lookD k kvs).isSome else .bad
  | _ => .bad
def inB (a : D) : D → Res Bool
  | .str y => inStr y a
  | .tuple ds => inSeq a ds
  | .list ds => inSeq a ds
  | .dict kvs => inDict kvs a
  | _ => .bad
def inD (a b : D) : Res D := (inB a b).bind fun t => .ok (.bool t)
def notinD (a b : D) : Res D := (inB a b).bind fun t => .ok (.bool (!t))
def atD (xs : List D) : D → Res D
  | .int i => match atI xs i with | some d => .ok d | none => .bad
  | _ => .bad
def atS (x : Str) : D → Res D
  | .int i => match atI x.cps.toList i with | some c => .ok (.str ⟨#[c]⟩) | none => .bad
  | _ => .bad
def getD' (kvs : List (D × D)) : D → Res D
  | .str k => match lookD k kvs with | some d => .ok d | none => .bad
  | _ => .bad
def idxD : D → D → Res D
  | .list xs => atD xs
  | .tuple xs => atD xs
  | .dict [(.none, .list xs)] => atD xs
  | .str x => atS x
  | .dict kvs => getD' kvs
  | _ => fun _ => .bad
def joinD : D → D → Res D
  | .str s, .list ds => match strsD ds with | some xs => if fits ((xs.map Str.length).sum + xs.length * s.length) then .ok (.str (Str.join s xs)) else .bad | none => .bad
  | _, _ => .bad
def op2 : Op2 → D → D → Res D
  | .add => addD
  | .sub => subD
  | .mul => mulD
  | .mod => modD
  | .pow => powD
  | .eq => eqD
  | .ne => neD
  | .lt => ltD
  | .le => leD
  | .gt => gtD
  | .ge => geD
  | .is => isD
  | .isnot => isnotD
  | .in_ => inD
  | .notin => notinD
  | .idx => idxD
  | .join => joinD
  | _ => fun _ _ => .bad
/-! slices -/
def bound : D → Option (Option Int)
  | .none => some none
  | .int i => some (some i)
  | _ => none
def cutL {α : Type} (xs : List α) (lo hi : Option Int) : List α := (xs.drop (HT.sIx xs.length 0 lo)).take (HT.sIx xs.length xs.length hi - HT.sIx xs.length 0 lo)
def cutD (lo hi : Option Int) : D → Res D
  | .list xs => .ok (.list (cutL xs lo hi))
  | .tuple xs => .ok (.tuple (cutL xs lo hi))
  | .str x => .ok (.str (cutS x lo hi))
  | _ => .bad
def slD (a lo hi : D) : Res D := match bound lo, bound hi with
  | some l, some h => cutD l h a
  | _, _ => .bad
def dGetD (a k x : D) : Res D := match a, k with
  | .dict kvs, .str k => if isKeyed kvs then .ok ((lookD k kvs).getD x) else .bad
  | _, _ => .bad
def op3 : Op3 → D → D → D → Res D
  | .sl => slD
  | .get => dGetD
  | _ => fun _ _ _ => .bad
/-- a display -/
def dispD : List Str → List D → List (D × D) → Option (List (D × D))
  | [], [], acc => some acc
  | k :: ks, d :: ds, acc => dispD ks ds (putD k d acc)
  | _, _, _ => none
def dspD (ks : List Str) (ds : List D) : Res D := match dispD ks ds [] with
  | some kvs => .ok (.dict kvs)
  | none => .bad
def keysOf : D → Res (List D)
  | .dict kvs => match keysD kvs with | some ks => .ok ks | none => .bad
  | _ => .bad

/-! ### running -/
mutual
def Tg.put : Tg → D → En → Res En
  | .nm i, d, env => .ok (env.set i (some d))
  | .tu ts, .tuple ds, env => Tgs.put ts ds env
  | .tu _, _, _ => .bad
def Tgs.put : Tgs → List D → En → Res En
  | .nil, [], env => .ok env
  | .cons t ts, d :: ds, env => (Tg.put t d env).bind fun e => Tgs.put ts ds e
  | _, _, _ => .bad
end
def eachD (f : D → Res (Option D)) : List D → Res (List D)
  | [] => .ok []
  | d :: ds => (f d).bind fun o => (eachD f ds).bind fun r => .ok (match o with | some x => x :: r | none => r)
def rangeD (lo : Int) : Nat → List D
  | 0 => []
  | n + 1 => .int lo :: rangeD (lo + 1) n
def enumD (i : Nat) : List D → List D
  | [] => []
  | d :: r => .tuple [.int i, d] :: enumD (i + 1) r
def zipD : List D → List D → List D
  | a :: r, b :: q => .tuple [a, b] :: zipD r q
  | _, _ => []
def itemsOf : D → Res (List D)
  | .list ds => .ok ds
  | .tuple ds => .ok ds
  | .str x => .ok (x.cps.toList.map fun c => .str ⟨#[c]⟩)
  | _ => .bad
/-- lists and tuples alone -/
def seqOf : D → Res (List D)
  | .list ds => .ok ds
  | .tuple ds => .ok ds
  | _ => .bad
def slot : Option (Option D) → Res D
  | some (some d) => .ok d
  | _ => .bad
@[simp] theorem slot_some (d : D) : slot (some (some d)) = .ok d := rfl
/-- a op b op c, behind the first answer -/
def chainK (r : Res D) : D → Res D
  | .bool true => r
  | .bool false => .ok (.bool false)
  | _ => .bad
@[simp] theorem chainK_t (r : Res D) : chainK r (.bool true) = r := rfl
@[simp] theorem chainK_f (r : Res D) : chainK r (.bool false) = .ok (.bool false) := rfl
def rng1D : D → Res (List D)
  | .int n => if decide (-(2 ^ 62) ≤ n ∧ n ≤ (sizeLine : Int)) then .ok (rangeD 0 n.toNat) else .bad
  | _ => .bad
def rng2D : D → D → Res (List D)
  | .int i, .int j => if decide (-(2 ^ 62) ≤ i ∧ i < 2 ^ 62 ∧ -(2 ^ 62) ≤ j ∧ j < 2 ^ 62 ∧ j - i ≤ (sizeLine : Int)) then .ok (rangeD i (j - i).toNat) else .bad
  | _, _ => .bad
section
variable (ρ : Nat → List D → Res D)
mutual
def evalE : IE → En → Res D
  | .bad, _ => .bad
  | .var i, env => slot env[i]?
  | .non, _ => .ok .none
  | .bl b, _ => .ok (.bool b)
  | .int i, _ => .ok (.int i)
  | .str x, _ => .ok (.str x)
  | .glob _ d, _ => .ok d
  | .tup es, env => (evalEs es env).bind fun ds => .ok (.tuple ds)
  | .lst es, env => (evalEs es env).bind fun ds => .ok (.list ds)
  | .dsp ks es, env => (evalEs es env).bind (dspD ks)
  | .o1 op a, env => (evalE a env).bind (op1 op)
  | .o2 op a b, env => (evalE a env).bind fun x => (evalE b env).bind fun y => op2 op x y
  | .o3 op a b c, env => (evalE a env).bind fun x => (evalE b env).bind fun y => (evalE c env).bind fun z => op3 op x y z
  | .isi a t, env => (evalE a env).bind (isiD t)
  | .and_ a b, env => (evalE a env).bind fun x => (truth x).bind fun t => if t then evalE b env else .ok x
  | .or_ a b, env => (evalE a env).bind fun x => (truth x).bind fun t => if t then .ok x else evalE b env
  | .ifE c a b, env => (evalE c env).bind fun x => (truth x).bind fun t => if t then evalE a env else evalE b env
  | .chain o p a b c, env => (evalE a env).bind fun x => (evalE b env).bind fun y => (op2 o x y).bind (chainK ((evalE c env).bind fun z => op2 p y z))
  | .call f es, env => (evalEs es env).bind (ρ f)
  | .comp t it elt, env => (evalIT it env).bind fun ds => ((eachD (fun d => (t.put d env).bind fun e => (evalE elt e).bind fun x => .ok (some x)) ds).tame).bind fun r => .ok (.list r)
  | .compIf t it c elt, env => (evalIT it env).bind fun ds => ((eachD (fun d => (t.put d env).bind fun e => (evalE c e).bind fun y => (truth y).bind fun b => if b then (evalE elt e).bind fun x => .ok (some x) else .ok none) ds).tame).bind fun r => .ok (.list r)
  | .compK i a elt, env => (evalE a env).bind fun u => (keysOf u).bind fun ds => ((eachD (fun d => (evalE elt (env.set i (some d))).bind fun x => .ok (some x)) ds).tame).bind fun r => .ok (.list r)
  | .compKIf i a c elt, env => (evalE a env).bind fun u => (keysOf u).bind fun ds => ((eachD (fun d => (evalE c (env.set i (some d))).bind fun y => (truth y).bind fun b => if b then (evalE elt (env.set i (some d))).bind fun x => .ok (some x) else .ok none) ds).tame).bind fun r => .ok (.list r)
def evalEs : IEs → En → Res (List D)
  | .nil, _ => .ok []
  | .cons e es, env => (evalE e env).bind fun d => (evalEs es env).bind fun ds => .ok (d :: ds)
def evalIT : IT → En → Res (List D)
  | .seq e, env => (evalE e env).bind itemsOf
  | .rng1 a, env => (evalE a env).bind rng1D
  | .rng2 a b, env => (evalE a env).bind fun d => (evalE b env).bind (rng2D d)
  | .enum e, env => (evalE e env).bind fun d => (seqOf d).bind fun ds => .ok (enumD 0 ds)
  | .zip a b, env => (evalE a env).bind fun d => (evalE b env).bind fun e => (seqOf d).bind fun xs => (seqOf e).bind fun ys => .ok (zipD xs ys)
  | .rev e, env => (evalE e env).bind fun d => (itemsOf d).bind fun ds => .ok ds.reverse
end
end

/-! ### statements -/
mutual
inductive IS where
  | pass
  | bad
  | asg (t : Tg) (e : IE)
  | par (i j : Nat) (a b : IE)
  | mset (i : Nat) (e : IE)
  | app (i : Nat) (e : IE)
  | ext (i : Nat) (e : IE)
  | ins (i : Nat) (a e : IE)
  | put (i : Nat) (a e : IE)
  | ret (e : IE)
  | if_ (c : IE) (a b : ISs)
  | for_ (t : Tg) (it : IT) (body : ISs)
inductive ISs where
  | nil
  | cons (s : IS) (ss : ISs)
  | pub (ms : List Nat) (ss : ISs)
end
inductive Fl where
  | next (env : En)
  | ret (d : D)
def Fl.go (f : En → Res Fl) : Fl → Res Fl
  | .next e => f e
  | .ret d => .ok (.ret d)
def Fl.fin : Fl → Res D
  | .next _ => .ok .none
  | .ret d => .ok d
/-- a list grown by one -/
def appD (env : En) (i : Nat) (d : D) : Option (Option D) → Res Fl
  | some (some (.list ds)) => if decide (ds.length < sizeLine) then .ok (.next (env.set i (some (.list (ds ++ [d]))))) else .bad
  | _ => .bad
def extD (env : En) (i : Nat) (e : D) : Option (Option D) → Res Fl
  | some (some (.list ds)) => (match e with | .list es => if decide (ds.length + es.length ≤ sizeLine) then .ok (.next (env.set i (some (.list (ds ++ es))))) else .bad | _ => .bad)
  | _ => .bad
def insD (env : En) (i : Nat) (n e : D) : Option (Option D) → Res Fl
  | some (some (.list ds)) => (match n with | .int n => if decide (ds.length < sizeLine ∧ 0 ≤ n ∧ n < 2 ^ 62) then .ok (.next (env.set i (some (.list (ds.take n.toNat ++ [e] ++ ds.drop n.toNat))))) else .bad | _ => .bad)
  | _ => .bad
def putS (env : En) (i : Nat) (n e : D) : Option (Option D) → Res Fl
  | some (some (.dict kvs)) => (match n with | .str k => if isKeyed kvs && decide (kvs.length < sizeLine) then .ok (.next (env.set i (some (.dict (putD k e kvs))))) else .bad | _ => .bad)
  | _ => .bad
/-- a new thing that may be changed -/
def freshD : D → Bool
  | .list _ => true
  | .dict kvs => isKeyed kvs
  | _ => false
def msetD (env : En) (i : Nat) (d : D) : Res Fl := if freshD d then .ok (.next (env.set i (some d))) else .bad
/-- slots forgotten -/
def dropE (env : En) : List Nat → En
  | [] => env
  | v :: vs => (dropE env vs).set v none
@[simp] theorem Fl.go_next (f : En → Res Fl) (e : En) : Fl.go f (.next e) = f e := rfl
@[simp] theorem Fl.go_ret (f : En → Res Fl) (d : D) : Fl.go f (.ret d) = .ok (.ret d) := rfl
@[simp] theorem Fl.fin_next (e : En) : Fl.fin (.next e) = .ok .none := rfl
@[simp] theorem Fl.fin_ret (d : D) : Fl.fin (.ret d) = .ok d := rfl
section
variable (ρ : Nat → List D → Res D)
def forD (f : D → En → Res Fl) : List D → En → Res Fl
  | [], env => .ok (.next env)
  | d :: ds, env => (f d env).bind (Fl.go (forD f ds))
mutual
def evalS : IS → En → Res Fl
  | .pass, env => .ok (.next env)
  | .bad, _ => .bad
  | .asg t e, env => (evalE ρ e env).bind fun d => (t.put d env).bind fun e => .ok (.next e)
  | .par i j a b, env => (evalE ρ a env).bind fun x => (evalE ρ b env).bind fun y => .ok (.next ((env.set i (some x)).set j (some y)))
  | .mset i e, env => (evalE ρ e env).bind (msetD env i)
  | .app i e, env => (evalE ρ e env).bind fun d => appD env i d env[i]?
  | .ext i e, env => (evalE ρ e env).bind fun d => extD env i d env[i]?
  | .ins i a e, env => (evalE ρ a env).bind fun n => (evalE ρ e env).bind fun d => insD env i n d env[i]?
  | .put i a e, env => (evalE ρ e env).bind fun d => (evalE ρ a env).bind fun n => putS env i n d env[i]?
  | .ret e, env => (evalE ρ e env).bind fun d => .ok (.ret d)
  | .if_ c a b, env => (evalE ρ c env).bind fun x => (truth x).bind fun t => if t then evalSs a env else evalSs b env
  | .for_ t it body, env => (evalIT ρ it env).bind fun ds => forD (fun d e => (t.put d e).bind fun e' => evalSs body e') ds env
def evalSs : ISs → En → Res Fl
  | .nil, env => .ok (.next env)
  | .cons s ss, env => (evalS s env).bind (Fl.go (evalSs ss))
  | .pub ms ss, env => (evalSs ss env).bind (Fl.go fun e => .ok (.next (dropE e ms)))
end
end
structure FDef where
  n : Nat
  arity : Nat
  body : ISs
def runF (ρ : Nat → List D → Res D) (fd : FDef) (ds : List D) : Res D :=
  if ds.length = fd.arity then (evalSs ρ fd.body (ds.map some ++ List.replicate (fd.n - ds.length) none)).bind Fl.fin
  else .bad
def callF (defs : Nat → Option FDef) : Nat → Nat → List D → Res D
  | 0, _, _ => .bad
  | k + 1, f, ds => match defs f with
    | some fd => runF (callF defs k) fd ds
    | none => .bad
end Tq

/-! Tq, part B: how plain values stand in the heap. -/
namespace Tq
open PySem L2 Res

/-! ### the heap without some places -/
def hide (H : Hp) (Ps : List Addr) : Hp := fun a => if a ∈ Ps then none else H a
theorem hide_out {H : Hp} {Ps : List Addr} {a : Addr} (h : a ∉ Ps) : hide H Ps a = H a := if_neg h
theorem hide_in {H : Hp} {Ps : List Addr} {a : Addr} (h : a ∈ Ps) : hide H Ps a = none := if_pos h
theorem hide_some {H : Hp} {Ps : List Addr} {a : Addr} {o : HO} (h : hide H Ps a = some o) : a ∉ Ps ∧ H a = some o := by
  by_cases ha : a ∈ Ps
  · rw [hide_in ha] at h; cases h
  · rw [hide_out ha] at h; exact ⟨ha, h⟩
theorem hide_le (H : Hp) (Ps : List Addr) : Same (hide H Ps) H := fun _ _ h => (hide_some h).2
theorem hide_mono {H H' : Hp} (h : Same H H') (Ps : List Addr) : Same (hide H Ps) (hide H' Ps) := fun a o q => by
  obtain ⟨h1, h2⟩ := hide_some q
  rw [hide_out h1]; exact h _ _ h2
theorem hide_nil (H : Hp) : hide H [] = H := by
  funext a; exact hide_out (by simp)
theorem same_upd {H : Hp} {p : Addr} {o : HO} (h : H p = none) : Same H (upd H p o) := fun b u q => by rw [upd_ne (ne_of_none q h)]; exact q
theorem seqT {K : PySem.W.Frag} {H H' : Hp} {a : Addr} {xs : List V} (e : Same H H') (h : SqT K H a xs) : SqT K H' a xs := by
  rcases h with (h | ⟨o, h⟩) | h
  · exact .inl (.inl (e _ _ h))
  · exact .inl (.inr ⟨o, e _ _ h⟩)
  · exact .inr h
/-- from one heap and its hidden places to another -/
structure Keep (Ps : List Addr) (H : Hp) (Ps' : List Addr) (H' : Hp) : Prop where
  view : Same (hide H Ps) (hide H' Ps')
  priv : ∀ p ∈ Ps, p ∈ Ps' ∧ H' p = H p
  dom : ∀ q ∈ Ps', H' q ≠ none
theorem Keep.same {Ps : List Addr} {H H' : Hp} (dom : ∀ q ∈ Ps, H q ≠ none) (h : Same H H') : Keep Ps H Ps H' where
  view := hide_mono h Ps
  priv := fun p hp => ⟨hp, by
    cases q : H p with
    | none => exact absurd q (dom p hp)
    | some o => exact h _ _ q⟩
  dom := fun q hq z => dom q hq (h.free z)
theorem Keep.trans {Ps Ps1 Ps2 : List Addr} {H H1 H2 : Hp} (a : Keep Ps H Ps1 H1) (b : Keep Ps1 H1 Ps2 H2) : Keep Ps H Ps2 H2 where
  view := a.view.trans b.view
  priv := fun p hp => ⟨(b.priv p (a.priv p hp).1).1, (b.priv p (a.priv p hp).1).2.trans (a.priv p hp).2⟩
  dom := b.dom
/-- a new hidden object -/
theorem Keep.new {Ps : List Addr} {H : Hp} {p : Addr} {o : HO} (dom : ∀ q ∈ Ps, H q ≠ none) (h : H p = none) : Keep Ps H (p :: Ps) (upd H p o) where
  view := fun a u q => by
    obtain ⟨h1, h2⟩ := hide_some q
    have ne : a ≠ p := ne_of_none h2 h
    rw [hide_out (by simp [ne, h1]), upd_ne ne]; exact h2
  priv := fun q hq => ⟨List.mem_cons_of_mem _ hq, upd_ne fun z => dom q hq (z ▸ h)⟩
  dom := fun q hq z => by
    by_cases e : q = p
    · subst e; rw [upd_same] at z; cases z
    · rw [upd_ne e] at z
      exact dom q ((List.mem_cons.mp hq).resolve_left e) z

/-! ### plain values in the heap -/
abbrev scrD (ds : List D) : D := .dict [(.none, .list ds)]
mutual
inductive Rp (K : PySem.W.Frag) (H : Hp) : V → D → Prop
  | non : Rp K H .non .none
  | bl (b : Bool) : Rp K H (.bl b) (.bool b)
  | int (i : Int) : Rp K H (.int i) (.int i)
  | str {x : Str} : x.length ≤ sizeLine → PyData.strOk x = true → Rp K H (.str x) (.str x)
  | lst {a : Addr} {xs : List V} {ds : List D} : H a = some (.lst xs) → RpAll K H xs ds → ds.length ≤ sizeLine → Rp K H (.ref a) (.list ds)
  | tup {a : Addr} {xs : List V} {ds : List D} : SqT K H a xs → RpAll K H xs ds → ds.length ≤ sizeLine → Rp K H (.ref a) (.tuple ds)
  | scr {a : Addr} {xs : List V} {ds : List D} : SqL K H a xs → RpAll K H xs ds → ds.length ≤ sizeLine → Rp K H (.ref a) (scrD ds)
  | dct {a : Addr} {ks : List (Key × V)} {kvs : List (D × D)} : Rd H a (.dK ks) → RpKV K H ks kvs → kvs.length ≤ sizeLine → Rp K H (.ref a) (.dict kvs)
inductive RpAll (K : PySem.W.Frag) (H : Hp) : List V → List D → Prop
  | nil : RpAll K H [] []
  | cons {v : V} {vs : List V} {d : D} {ds : List D} : Rp K H v d → RpAll K H vs ds → RpAll K H (v :: vs) (d :: ds)
inductive RpKV (K : PySem.W.Frag) (H : Hp) : List (Key × V) → List (D × D) → Prop
  | nil : RpKV K H [] []
  | cons {x : Str} {v : V} {vs : List (Key × V)} {d : D} {ds : List (D × D)} : x.length ≤ sizeLine → PyData.strOk x = true → Rp K H v d → RpKV K H vs ds → RpKV K H ((.inr x, v) :: vs) ((.str x, d) :: ds)
end
section
variable {K : PySem.W.Frag} {H H' : Hp}
mutual
theorem Rp.mono (e : Same H H') : ∀ {v : V} {d : D}, Rp K H v d → Rp K H' v d
  | _, _, .non => .non
  | _, _, .bl b => .bl b
  | _, _, .int i => .int i
  | _, _, .str h h' => .str h h'
  | _, _, .lst h r z => .lst (e _ _ h) (RpAll.mono e r) z
  | _, _, .tup h r z => .tup (seqT e h) (RpAll.mono e r) z
  | _, _, .scr h r z => .scr (e.seq h) (RpAll.mono e r) z
  | _, _, .dct h r z => .dct (h.elim (fun q => .inl (e _ _ q)) fun ⟨o, q⟩ => .inr ⟨o, e _ _ q⟩) (RpKV.mono e r) z
theorem RpAll.mono (e : Same H H') : ∀ {vs : List V} {ds : List D}, RpAll K H vs ds → RpAll K H' vs ds
  | _, _, .nil => .nil
  | _, _, .cons h r => .cons (Rp.mono e h) (RpAll.mono e r)
theorem RpKV.mono (e : Same H H') : ∀ {vs : List (Key × V)} {ds : List (D × D)}, RpKV K H vs ds → RpKV K H' vs ds
  | _, _, .nil => .nil
  | _, _, .cons z1 z2 h r => .cons z1 z2 (Rp.mono e h) (RpKV.mono e r)
end
theorem RpKV.length : ∀ {vs : List (Key × V)} {ds : List (D × D)}, RpKV K H vs ds → vs.length = ds.length
  | _, _, .nil => rfl
  | _, _, .cons _ _ _ r => by rw [List.length_cons, List.length_cons, RpKV.length r]
theorem RpKV.keyed : ∀ {vs : List (Key × V)} {ds : List (D × D)}, RpKV K H vs ds → isKeyed ds = true
  | _, _, .nil => rfl
  | _, _, .cons (x := x) (d := d) (ds := ds) _ _ _ r => by
    have := RpKV.keyed r
    unfold isKeyed at this ⊢
    show ((keysD ds).map (PyData.str x :: ·)).isSome = true
    rw [Option.isSome_map]; exact this
theorem RpKV.look (k : Str) : ∀ {vs : List (Key × V)} {ds : List (D × D)}, RpKV K H vs ds → (∀ d, lookD k ds = some d → ∃ v, valV vs (.inr k) = some v ∧ Rp K H v d) ∧ (lookD k ds = none → valV vs (.inr k) = none)
  | _, _, .nil => ⟨fun d h => (nomatch (show (none : Option D) = some d from h)), fun _ => rfl⟩
  | _, _, .cons (x := x) (v := v) (d := d) (ds := ds) (vs := vs) _ _ h r => by
    have ih := RpKV.look k r
    show (∀ d', (if x = k then some d else lookD k ds) = some d' → _) ∧ ((if x = k then some d else lookD k ds) = none → _)
    by_cases e : x = k
    · subst e
      simp only [if_true]
      refine ⟨fun d' q => ⟨v, valV_pos rfl, ?_⟩, fun q => nomatch q⟩
      cases q; exact h
    · simp only [if_neg e]
      have ne : ¬ ((.inr x : Key), v).1 = .inr k := fun z => e (Sum.inr.inj z)
      rw [valV_neg ne]
      exact ih
theorem RpKV.there (k : Str) {vs : List (Key × V)} {ds : List (D × D)} (r : RpKV K H vs ds) : (lookD k ds).isSome = (valV vs (.inr k)).isSome := by
  obtain ⟨h1, h2⟩ := r.look k
  cases q : lookD k ds with
  | none => rw [h2 q]; rfl
  | some d => obtain ⟨v, e, _⟩ := h1 d q; rw [e]; rfl
theorem RpKV.append : ∀ {vs ws : List (Key × V)} {ds es : List (D × D)}, RpKV K H vs ds → RpKV K H ws es → RpKV K H (vs ++ ws) (ds ++ es)
  | _, _, _, _, .nil, s => s
  | _, _, _, _, .cons z1 z2 h r, s => .cons z1 z2 h (RpKV.append r s)
theorem RpKV.over {k : Str} {v : V} {d : D} (hv : Rp K H v d) : ∀ {vs : List (Key × V)} {ds : List (D × D)}, RpKV K H vs ds → RpKV K H (vs.map fun kv => if kv.1 = .inr k then (kv.1, v) else kv) (ds.map fun p => if keyIs k p.1 then (p.1, d) else p)
  | _, _, .nil => .nil
  | _, _, .cons (x := x) z1 z2 h r => by
    rw [List.map_cons, List.map_cons]
    by_cases e : x = k
    · subst e
      have e1 : keyIs x (PyData.str x) = true := decide_eq_true rfl
      simp only [e1, if_true]
      exact .cons z1 z2 hv (RpKV.over hv r)
    · have e1 : keyIs k (PyData.str x) = false := decide_eq_false e
      have e2 : ¬ (Sum.inr x : Key) = .inr k := fun z => e (Sum.inr.inj z)
      simp only [e1, e2, if_false, Bool.false_eq_true]
      exact .cons z1 z2 h (RpKV.over hv r)
theorem RpKV.put {k : Str} {v : V} {d : D} (hk : k.length ≤ sizeLine) (hk' : PyData.strOk k = true) (hv : Rp K H v d) {vs : List (Key × V)} {ds : List (D × D)} (r : RpKV K H vs ds) : RpKV K H (putK vs (.inr k) v) (putD k d ds) := by
  unfold putK putD
  rw [valV_any, ← r.there k]
  by_cases q : (lookD k ds).isSome = true
  · rw [if_pos q, if_pos q]
    exact r.over hv
  · rw [if_neg q, if_neg q]
    exact r.append (.cons hk hk' hv .nil)
theorem RpAll.length : ∀ {vs : List V} {ds : List D}, RpAll K H vs ds → vs.length = ds.length
  | _, _, .nil => rfl
  | _, _, .cons _ r => by rw [List.length_cons, List.length_cons, RpAll.length r]
theorem RpAll.get : ∀ {vs : List V} {ds : List D} {i : Nat} {v : V}, RpAll K H vs ds → vs[i]? = some v → ∃ d, ds[i]? = some d ∧ Rp K H v d
  | _, _, _, _, .nil, e => by simp at e
  | _, _, 0, _, .cons r _, e => by simp at e; subst e; exact ⟨_, rfl, r⟩
  | _, _, i + 1, v, .cons _ t, e => by
    obtain ⟨d, h1, h2⟩ := RpAll.get (i := i) (v := v) t (by simpa using e)
    exact ⟨d, by simpa using h1, h2⟩
theorem RpAll.getD : ∀ {vs : List V} {ds : List D} {i : Nat} {d : D}, RpAll K H vs ds → ds[i]? = some d → ∃ v, vs[i]? = some v ∧ Rp K H v d
  | _, _, _, _, .nil, e => by simp at e
  | _, _, 0, _, .cons r _, e => by simp at e; subst e; exact ⟨_, rfl, r⟩
  | _, _, i + 1, d, .cons _ t, e => by
    obtain ⟨v, h1, h2⟩ := RpAll.getD (i := i) (d := d) t (by simpa using e)
    exact ⟨v, by simpa using h1, h2⟩
theorem RpAll.append : ∀ {xs ys : List V} {ds es : List D}, RpAll K H xs ds → RpAll K H ys es → RpAll K H (xs ++ ys) (ds ++ es)
  | _, _, _, _, .nil, s => s
  | _, _, _, _, .cons r t, s => .cons r (RpAll.append t s)
theorem RpAll.take : ∀ {xs : List V} {ds : List D} (n : Nat), RpAll K H xs ds → RpAll K H (xs.take n) (ds.take n)
  | _, _, 0, _ => .nil
  | _, _, _ + 1, .nil => .nil
  | _, _, n + 1, .cons r t => .cons r (RpAll.take n t)
theorem RpAll.drop : ∀ {xs : List V} {ds : List D} (n : Nat), RpAll K H xs ds → RpAll K H (xs.drop n) (ds.drop n)
  | _, _, 0, r => r
  | _, _, _ + 1, .nil => .nil
  | _, _, n + 1, .cons _ t => RpAll.drop n t
theorem RpAll.atI {vs : List V} {ds : List D} {i : Int} {d : D} (r : RpAll K H vs ds) (h : L2.atI ds i = some d) : ∃ v, L2.atI vs i = some v ∧ Rp K H v d := by
  unfold L2.atI at h ⊢
  rw [r.length]
  cases e : ixN ds.length i with
  | none => rw [e] at h; cases h
  | some j =>
    rw [e] at h
    exact r.getD h
mutual
theorem Rp.dp : ∀ {v : V} {d : D}, Rp K H v d → noDict d = true → Dp K H v d ∧ d.canLay0 = true
  | _, _, .non, _ => ⟨.non, by simp [PyData.canLay0]⟩
  | _, _, .bl b, _ => ⟨.bl b, by simp [PyData.canLay0]⟩
  | _, _, .int i, _ => ⟨.int i, by simp [PyData.canLay0]⟩
  | _, _, .str h h', _ => ⟨.str _, by simpa [PyData.canLay0] using h'⟩
  | _, _, .lst h r z, n => by
    obtain ⟨a, b⟩ := RpAll.dp r (by simpa [noDict] using n)
    exact ⟨.lst (SqL.of h) a, by simpa [PyData.canLay0] using b⟩
  | _, _, .tup h r z, n => by
    obtain ⟨a, b⟩ := RpAll.dp r (by simpa [noDict] using n)
    exact ⟨.tup h a, by simpa [PyData.canLay0] using b⟩
  | _, _, .scr h r z, n => by simp [noDict] at n
  | _, _, .dct h r z, n => by simp [noDict] at n
theorem RpAll.dp : ∀ {vs : List V} {ds : List D}, RpAll K H vs ds → noDicts ds = true → DpAll K H vs ds ∧ PyData.canLayAll0 ds = true
  | _, _, .nil, _ => ⟨.nil, by simp [PyData.canLayAll0]⟩
  | _, _, .cons h r, n => by
    simp only [noDicts, Bool.and_eq_true] at n
    obtain ⟨a, b⟩ := Rp.dp h n.1
    obtain ⟨c, d⟩ := RpAll.dp r n.2
    exact ⟨.cons a c, by simp [PyData.canLayAll0, b, d]⟩
end
end
end Tq

/-! Tq, part C: the operations, one by one. -/
namespace Tq
open PySem L2 Res

/-! ### values that may be hidden at their top -/
def Pv (K : PySem.W.Frag) (H : Hp) (Ps : List Addr) (v : V) : D → Prop
  | .list ds => ∃ p xs, v = .ref p ∧ p ∈ Ps ∧ H p = some (.lst xs) ∧ RpAll K (hide H Ps) xs ds ∧ ds.length ≤ sizeLine
  | .dict kvs => ∃ p ks, v = .ref p ∧ p ∈ Ps ∧ H p = some (.dK ks) ∧ RpKV K (hide H Ps) ks kvs ∧ kvs.length ≤ sizeLine
  | _ => False
def RL (K : PySem.W.Frag) (H : Hp) (Ps : List Addr) (b : Bool) (v : V) (d : D) : Prop := Rp K (hide H Ps) v d ∨ (b = true ∧ Pv K H Ps v d)
section
variable {K : PySem.W.Frag} {H H' : Hp} {Ps Ps' : List Addr} {b : Bool} {v : V} {d : D}
theorem RL.of (h : Rp K (hide H Ps) v d) : RL K H Ps b v d := .inl h
theorem RL.clean (h : RL K H Ps false v d) : Rp K (hide H Ps) v d := h.elim id fun q => Bool.noConfusion q.1
theorem Pv.keep (h : Pv K H Ps v d) (k : Keep Ps H Ps' H') : Pv K H' Ps' v d := by
  cases d with
  | list ds =>
    obtain ⟨p, xs, rfl, hp, e, r, z⟩ := h
    exact ⟨p, xs, rfl, (k.priv p hp).1, (k.priv p hp).2.trans e, r.mono k.view, z⟩
  | dict ds =>
    obtain ⟨p, xs, rfl, hp, e, r, z⟩ := h
    exact ⟨p, xs, rfl, (k.priv p hp).1, (k.priv p hp).2.trans e, r.mono k.view, z⟩
  | _ => exact False.elim h
theorem RL.keep (h : RL K H Ps b v d) (k : Keep Ps H Ps' H') : RL K H' Ps' b v d := h.elim (fun q => .inl (q.mono k.view)) fun q => .inr ⟨q.1, q.2.keep k⟩
theorem RL.list {ds : List D} (h : RL K H Ps b v (.list ds)) : ∃ a xs, v = .ref a ∧ H a = some (.lst xs) ∧ RpAll K (hide H Ps) xs ds ∧ ds.length ≤ sizeLine := by
  rcases h with h | ⟨_, p, xs, rfl, hp, e, r, z⟩
  · cases h with
    | lst e r z => exact ⟨_, _, rfl, hide_le _ _ _ _ e, r, z⟩
  · exact ⟨p, xs, rfl, e, r, z⟩
theorem RL.tuple {ds : List D} (h : RL K H Ps b v (.tuple ds)) : ∃ a xs, v = .ref a ∧ SqT K H a xs ∧ RpAll K (hide H Ps) xs ds ∧ ds.length ≤ sizeLine := by
  rcases h with h | ⟨_, h⟩
  · cases h with
    | tup e r z => exact ⟨_, _, rfl, seqT (hide_le _ _) e, r, z⟩
  · exact False.elim h
theorem RL.scr {ds : List D} (h : RL K H Ps b v (scrD ds)) : ∃ a xs, v = .ref a ∧ SqL K H a xs ∧ RpAll K (hide H Ps) xs ds ∧ ds.length ≤ sizeLine := by
  rcases h with h | ⟨_, h⟩
  · cases h with
    | scr e r z => exact ⟨_, _, rfl, (hide_le _ _).seq e, r, z⟩
    | dct e r z => cases r
  · obtain ⟨p, ks, _, _, _, r, _⟩ := h
    cases r
theorem RL.dct {kvs : List (D × D)} (h : RL K H Ps b v (.dict kvs)) (hk : isKeyed kvs = true) : ∃ a ks, v = .ref a ∧ Rd H a (.dK ks) ∧ RpKV K (hide H Ps) ks kvs ∧ kvs.length ≤ sizeLine := by
  rcases h with h | ⟨_, p, ks, rfl, hp, e, r, z⟩
  · cases h with
    | scr e r z => cases hk
    | dct e r z => exact ⟨_, _, rfl, e.elim (fun q => .inl (hide_le _ _ _ _ q)) fun ⟨o, q⟩ => .inr ⟨o, hide_le _ _ _ _ q⟩, r, z⟩
  · exact ⟨p, ks, rfl, .inl e, r, z⟩
theorem RL.int {i : Int} (h : RL K H Ps b v (.int i)) : v = .int i := by
  rcases h with h | ⟨_, h⟩
  · cases h; rfl
  · exact False.elim h
theorem RL.bl {c : Bool} (h : RL K H Ps b v (.bool c)) : v = .bl c := by
  rcases h with h | ⟨_, h⟩
  · cases h; rfl
  · exact False.elim h
theorem RL.non (h : RL K H Ps b v .none) : v = .non := by
  rcases h with h | ⟨_, h⟩
  · cases h; rfl
  · exact False.elim h
theorem RL.str {x : Str} (h : RL K H Ps b v (.str x)) : v = .str x ∧ x.length ≤ sizeLine ∧ PyData.strOk x = true := by
  rcases h with h | ⟨_, h⟩
  · cases h with
    | str h1 h2 => exact ⟨rfl, h1, h2⟩
  · exact False.elim h
theorem RL.dp (h : RL K H Ps b v d) (n : noDict d = true) : Dp K H v d ∧ d.canLay0 = true := by
  rcases h with h | ⟨_, h⟩
  · exact (h.mono (hide_le _ _)).dp n
  · cases d with
    | list ds =>
      obtain ⟨p, xs, rfl, hp, e, r, z⟩ := h
      exact Rp.dp (.lst e (r.mono (hide_le _ _)) z) n
    | dict ds => simp [noDict] at n
    | _ => exact False.elim h
/-- new objects -/
theorem not_hid {p : Addr} (dom : ∀ q ∈ Ps, H q ≠ none) (hp : H p = none) : p ∉ Ps := fun z => dom p z hp
theorem new_tup {p : Addr} {xs : List V} {ds : List D} (dom : ∀ q ∈ Ps, H q ≠ none) (hp : H p = none) (r : RpAll K (hide H Ps) xs ds) (z : ds.length ≤ sizeLine) : Rp K (hide (upd H p (.tup xs)) Ps) (.ref p) (.tuple ds) :=
  .tup (.inl (.inl (by rw [hide_out (not_hid dom hp), upd_same]))) (r.mono (hide_mono (same_upd hp) Ps)) z
theorem new_lst {p : Addr} {xs : List V} {ds : List D} (dom : ∀ q ∈ Ps, H q ≠ none) (hp : H p = none) (r : RpAll K (hide H Ps) xs ds) (z : ds.length ≤ sizeLine) : Rp K (hide (upd H p (.lst xs)) Ps) (.ref p) (.list ds) :=
  .lst (by rw [hide_out (not_hid dom hp), upd_same]) (r.mono (hide_mono (same_upd hp) Ps)) z
end

/-! ### a dict that is locked, and opened again -/
def Sw (H H' : Hp) : Prop := ∀ a o, H a = some o → H' a = some o ∨ ∃ ks, (o = .dK ks ∨ ∃ od, o = .frz od (.dK ks)) ∧ Rd H' a (.dK ks)
section
variable {K : PySem.W.Frag} {H H' : Hp}
theorem Sw.hide (h : Sw H H') (Ps : List Addr) : Sw (Tq.hide H Ps) (Tq.hide H' Ps) := fun a o q => by
  obtain ⟨h1, h2⟩ := hide_some q
  rcases h a o h2 with z | ⟨ks, z1, z2⟩
  · exact .inl (by rw [hide_out h1]; exact z)
  · refine .inr ⟨ks, z1, ?_⟩
    unfold Rd
    rw [hide_out h1]
    exact z2
theorem Sw.lock {d : Addr} {ks : List (Key × V)} {od : Obj} (h : H d = some (.dK ks)) : Sw H (upd H d (.frz od (.dK ks))) := fun a o q => by
  by_cases e : a = d
  · subst e
    rw [h] at q; cases q
    exact .inr ⟨ks, .inl rfl, .inr ⟨od, upd_same⟩⟩
  · exact .inl (by rw [upd_ne e]; exact q)
theorem Sw.unlock {d : Addr} {ks : List (Key × V)} {od : Obj} (h : H d = some (.frz od (.dK ks))) : Sw H (upd H d (.dK ks)) := fun a o q => by
  by_cases e : a = d
  · subst e
    rw [h] at q; cases q
    exact .inr ⟨ks, .inr ⟨od, rfl⟩, .inl upd_same⟩
  · exact .inl (by rw [upd_ne e]; exact q)
theorem Sw.tup {a : Addr} {xs : List V} (e : Sw H H') (h : SqT K H a xs) : SqT K H' a xs := by
  rcases h with (h | ⟨o, h⟩) | h
  · rcases e _ _ h with z | ⟨ks, z | ⟨od, z⟩, _⟩ <;> first | exact .inl (.inl z) | cases z
  · rcases e _ _ h with z | ⟨ks, z | ⟨od, z⟩, _⟩ <;> first | exact .inl (.inr ⟨o, z⟩) | cases z
  · exact .inr h
theorem Sw.seq {a : Addr} {xs : List V} (e : Sw H H') (h : SqL K H a xs) : SqL K H' a xs := by
  rcases h with (h | ⟨o, h⟩) | h
  · rcases e _ _ h with z | ⟨ks, z | ⟨od, z⟩, _⟩ <;> first | exact .inl (.inl z) | cases z
  · rcases e _ _ h with z | ⟨ks, z | ⟨od, z⟩, _⟩ <;> first | exact .inl (.inr ⟨o, z⟩) | cases z
  · exact .inr h
theorem Sw.dct {a : Addr} {ks : List (Key × V)} (e : Sw H H') (h : Rd H a (.dK ks)) : Rd H' a (.dK ks) := by
  rcases h with h | ⟨o, h⟩
  · rcases e _ _ h with z | ⟨ks', z | ⟨od, z⟩, w⟩
    · exact .inl z
    · cases z; exact w
    · cases z
  · rcases e _ _ h with z | ⟨ks', z | ⟨od, z⟩, w⟩
    · exact .inr ⟨o, z⟩
    · cases z
    · cases z; exact w
mutual
theorem Rp.sw (e : Sw H H') : ∀ {v : V} {d : D}, Rp K H v d → Rp K H' v d
  | _, _, .non => .non
  | _, _, .bl b => .bl b
  | _, _, .int i => .int i
  | _, _, .str h h' => .str h h'
  | _, _, .lst h r z => .lst (by rcases e _ _ h with q | ⟨ks, q | ⟨od, q⟩, _⟩ <;> first | exact q | cases q) (RpAll.sw e r) z
  | _, _, .tup h r z => .tup (e.tup h) (RpAll.sw e r) z
  | _, _, .scr h r z => .scr (e.seq h) (RpAll.sw e r) z
  | _, _, .dct h r z => .dct (e.dct h) (RpKV.sw e r) z
theorem RpAll.sw (e : Sw H H') : ∀ {vs : List V} {ds : List D}, RpAll K H vs ds → RpAll K H' vs ds
  | _, _, .nil => .nil
  | _, _, .cons h r => .cons (Rp.sw e h) (RpAll.sw e r)
theorem RpKV.sw (e : Sw H H') : ∀ {vs : List (Key × V)} {ds : List (D × D)}, RpKV K H vs ds → RpKV K H' vs ds
  | _, _, .nil => .nil
  | _, _, .cons z1 z2 h r => .cons z1 z2 (Rp.sw e h) (RpKV.sw e r)
end
end

/-! ### truth -/
theorem tru_of {K : PySem.W.Frag} {H : Hp} {Ps : List Addr} {b : Bool} {v : V} {d : D} {t : Bool} (h : RL K H Ps b v d) (e : truth d = .ok t) : TruV K v H t := by
  cases d with
  | none => cases h.non; cases e; exact rfl
  | bool c => cases h.bl; cases e; exact rfl
  | int i => cases h.int; cases e; exact rfl
  | str x =>
    obtain ⟨rfl, h1, _⟩ := h.str
    cases e
    refine ⟨h1, ?_⟩
    by_cases q : x.length = 0
    · rw [q]; rfl
    · have q2 : ((x.length : Int) != 0) = true := by simp [q]
      rw [q2]; simp [q]
  | list ds =>
    obtain ⟨a, xs, rfl, e1, r, _⟩ := h.list
    cases e
    refine .inl ⟨xs, SqL.of e1, ?_⟩
    cases r <;> rfl
  | tuple ds =>
    obtain ⟨a, xs, rfl, e1, r, _⟩ := h.tuple
    cases e
    refine .inr (.inl ⟨xs, e1, ?_⟩)
    cases r <;> rfl
  | dict _ => cases e

/-! ### what an operation's reading must give -/
/-- one place -/
def R1ok (K : PySem.W.Frag) (f : D → Res D) (r : V → Hp → VK → Prop) : Prop :=
  ∀ (v : V) (H : Hp) (Ps : List Addr) (d x : D) (b : Bool) (Q : VK), (∀ q ∈ Ps, H q ≠ none) → RL K H Ps b v d → f d = .ok x → (∀ u H', Same H H' → Rp K (hide H' Ps) u x → Q u H') → r v H Q
/-- two places -/
def R2ok (K : PySem.W.Frag) (f : D → D → Res D) (r : R2) : Prop :=
  ∀ (v w : V) (H : Hp) (Ps : List Addr) (d e x : D) (b c : Bool) (Q : VK), (∀ q ∈ Ps, H q ≠ none) → RL K H Ps b v d → RL K H Ps c w e → f d e = .ok x → (∀ u H', Same H H' → Rp K (hide H' Ps) u x → Q u H') → r v w H Q
end Tq

/-! Tq, part D: the operations' readings. -/
namespace Tq
open PySem L2 Res

section
variable {X : Cx}
theorem op_isB : OpR X (compareOp .Is) (fun x y H Q => ∃ c, y = .bl c ∧ Q (.bl (decide (x = .bl c))) H) := by
  intro pins s σ H x y v u Q I rx ry h
  obtain ⟨c, rfl, q⟩ := h
  cases ry
  cases x with
  | non => cases rx; exact wpAny_pure ⟨.bl _, H, I, rfl, q⟩
  | bl b =>
    cases rx
    refine wpAny_pure ⟨.bl _, H, I, ?_, q⟩
    cases b <;> cases c <;> rfl
  | int _ => obtain ⟨t, rfl⟩ := rx; exact wpAny_pure ⟨.bl _, H, I, rfl, q⟩
  | str _ => obtain ⟨t, rfl⟩ := rx; exact wpAny_pure ⟨.bl _, H, I, rfl, q⟩
  | byt _ => obtain ⟨t, rfl⟩ := rx; exact wpAny_pure ⟨.bl _, H, I, rfl, q⟩
  | flt _ => obtain ⟨t, rfl⟩ := rx; exact wpAny_pure ⟨.bl _, H, I, rfl, q⟩
  | ref _ => cases rx; exact wpAny_pure ⟨.bl _, H, I, rfl, q⟩
  | ty _ => cases rx; exact wpAny_pure ⟨.bl _, H, I, rfl, q⟩
theorem op_notB : OpR X (compareOp .IsNot) (fun x y H Q => ∃ c, y = .bl c ∧ Q (.bl (!decide (x = .bl c))) H) := by
  intro pins s σ H x y v u Q I rx ry h
  obtain ⟨c, rfl, q⟩ := h
  cases ry
  cases x with
  | non => cases rx; exact wpAny_pure ⟨.bl _, H, I, rfl, q⟩
  | bl b =>
    cases rx
    refine wpAny_pure ⟨.bl _, H, I, ?_, q⟩
    cases b <;> cases c <;> rfl
  | int _ => obtain ⟨t, rfl⟩ := rx; exact wpAny_pure ⟨.bl _, H, I, rfl, q⟩
  | str _ => obtain ⟨t, rfl⟩ := rx; exact wpAny_pure ⟨.bl _, H, I, rfl, q⟩
  | byt _ => obtain ⟨t, rfl⟩ := rx; exact wpAny_pure ⟨.bl _, H, I, rfl, q⟩
  | flt _ => obtain ⟨t, rfl⟩ := rx; exact wpAny_pure ⟨.bl _, H, I, rfl, q⟩
  | ref _ => cases rx; exact wpAny_pure ⟨.bl _, H, I, rfl, q⟩
  | ty _ => cases rx; exact wpAny_pure ⟨.bl _, H, I, rfl, q⟩
/-- == and != where one side is shallow -/
def rEqM (K : PySem.W.Frag) : R2 := fun x y H Q => ∃ d e, Dp K H x d ∧ Dp K H y e ∧ d.canLay0 = true ∧ e.canLay0 = true ∧ min d.depth e.depth ≤ 60 ∧ Q (.bl (PyData.eqv d e)) H
def rNeM (K : PySem.W.Frag) : R2 := fun x y H Q => ∃ d e, Dp K H x d ∧ Dp K H y e ∧ d.canLay0 = true ∧ e.canLay0 = true ∧ min d.depth e.depth ≤ 60 ∧ Q (.bl (!PyData.eqv d e)) H
theorem op_eqM (hu : X.A.units + 64 < cLine) : OpR X (compareOp .Eq) (rEqM X.K) := by
  intro pins s σ H x y v u Q I rx ry h
  obtain ⟨d, e, hd, he, sd, se, hm, q⟩ := h
  obtain ⟨as, r1⟩ := Dp.reads I d x v hd rx
  obtain ⟨bs, r2⟩ := Dp.reads I e y u he ry
  exact SeqAt.compareEq_reads r1 r2 sd se (by omega) ⟨.bl _, H, I, rfl, q⟩
theorem op_neM (hu : X.A.units + 64 < cLine) : OpR X (compareOp .NotEq) (rNeM X.K) := by
  intro pins s σ H x y v u Q I rx ry h
  obtain ⟨d, e, hd, he, sd, se, hm, q⟩ := h
  obtain ⟨as, r1⟩ := Dp.reads I d x v hd rx
  obtain ⟨bs, r2⟩ := Dp.reads I e y u he ry
  exact SeqAt.compareNe_reads r1 r2 sd se (by omega) ⟨.bl _, H, I, rfl, q⟩
/-- in, not in of lists and tuples -/
def rInM (K : PySem.W.Frag) (neg : Bool) : R2 := fun x y H Q => ∃ d ds, Dp K H x d ∧ (Dp K H y (.list ds) ∨ Dp K H y (.tuple ds)) ∧ d.canLay0 = true ∧ PyData.canLayAll0 ds = true ∧ min (PyData.depthAll ds) d.depth ≤ 60 ∧
  Q (.bl (if neg then !ds.any fun z => PyData.eqv z d else ds.any fun z => PyData.eqv z d)) H
theorem op_inM (hu : X.A.units + 64 < cLine) : OpR X (compareOp .In) (rInM X.K false) := by
  intro pins s σ H x y v u Q I rx ry h
  obtain ⟨d, ds, hd, he, sd, se, hm, q⟩ := h
  obtain ⟨as, r1⟩ := Dp.reads I d x v hd rx
  rcases he with he | he
  · obtain ⟨bs, r2⟩ := Dp.reads I (.list ds) y u he ry
    exact SeqAt.in_list_reads r2 r1 se sd (by omega) ⟨.bl _, H, I, rfl, q⟩
  · obtain ⟨bs, r2⟩ := Dp.reads I (.tuple ds) y u he ry
    exact SeqAt.in_tuple_reads r2 r1 se sd (by omega) ⟨.bl _, H, I, rfl, q⟩
theorem op_notInM (hu : X.A.units + 64 < cLine) : OpR X (compareOp .NotIn) (rInM X.K true) := by
  intro pins s σ H x y v u Q I rx ry h
  obtain ⟨d, ds, hd, he, sd, se, hm, q⟩ := h
  obtain ⟨as, r1⟩ := Dp.reads I d x v hd rx
  rcases he with he | he
  · obtain ⟨bs, r2⟩ := Dp.reads I (.list ds) y u he ry
    exact SeqAt.notIn_list_reads r2 r1 se sd (by omega) ⟨.bl _, H, I, rfl, q⟩
  · obtain ⟨bs, r2⟩ := Dp.reads I (.tuple ds) y u he ry
    exact SeqAt.notIn_tuple_reads r2 r1 se sd (by omega) ⟨.bl _, H, I, rfl, q⟩
end

/-! ### the plain operations over represented values -/
section
variable {K : PySem.W.Frag}
theorem Rp.sing {H : Hp} {x : Str} {c : Nat} (h : PyData.strOk x = true) (hc : c ∈ x.cps.toList) : Rp K H (.str ⟨#[c]⟩) (.str ⟨#[c]⟩) := by
  refine .str (by show 1 ≤ sizeLine; decide) ?_
  unfold PyData.strOk at h ⊢
  have := Array.all_eq_true_iff_forall_mem.mp h c (Array.mem_def.mpr hc)
  simpa using this
def rBI (f : Int → Int → Int) : R2 := fun x y H Q => ∃ a j, x = .bl a ∧ y = .int j ∧ Q (.int (f (b2i a) j)) H
def rIB (f : Int → Int → Int) : R2 := fun x y H Q => ∃ i b, x = .int i ∧ y = .bl b ∧ Q (.int (f i (b2i b))) H
theorem op_addBI {X : Cx} : OpR X (binaryOp .Add) (rBI fun i j => i + j) := by
  intro pins s σ H x y v u Q I rx ry h
  obtain ⟨a, j, rfl, rfl, q⟩ := h
  cases rx
  obtain ⟨t, rfl⟩ := ry
  exact PySem.IntBool.add_bool_int ⟨.int (b2i a + j), H, I.tok _, ⟨_, rfl⟩, q⟩
theorem op_subBI {X : Cx} : OpR X (binaryOp .Sub) (rBI fun i j => i - j) := by
  intro pins s σ H x y v u Q I rx ry h
  obtain ⟨a, j, rfl, rfl, q⟩ := h
  cases rx
  obtain ⟨t, rfl⟩ := ry
  exact PySem.IntBool.sub_bool_int ⟨.int (b2i a - j), H, I.tok _, ⟨_, rfl⟩, q⟩
theorem op_subIB {X : Cx} : OpR X (binaryOp .Sub) (rIB fun i j => i - j) := by
  intro pins s σ H x y v u Q I rx ry h
  obtain ⟨a, j, rfl, rfl, q⟩ := h
  cases ry
  obtain ⟨t, rfl⟩ := rx
  exact PySem.IntBool.sub_int_bool ⟨.int (a - b2i j), H, I.tok _, ⟨_, rfl⟩, q⟩
theorem op_mulBI {X : Cx} : OpR X (binaryOp .Mult) (rBI fun i j => i * j) := by
  intro pins s σ H x y v u Q I rx ry h
  obtain ⟨a, j, rfl, rfl, q⟩ := h
  cases rx
  obtain ⟨t, rfl⟩ := ry
  exact PySem.IntBool.mul_bool_int ⟨.int (b2i a * j), H, I.tok _, ⟨_, rfl⟩, q⟩
def rAddAll (K : PySem.W.Frag) : R2 := fun x y H Q => rBI (fun i j => i + j) x y H Q ∨ (rI0 fun i j => .int (i + j)) x y H Q ∨ (∃ i j, x = .str i ∧ y = .str j ∧ i.length + j.length ≤ sizeLine ∧ Q (.str (i ++ j)) H) ∨ rCat x y H Q ∨ rCatA K x y H Q
theorem strOk_append {x y : Str} (hx : PyData.strOk x = true) (hy : PyData.strOk y = true) : PyData.strOk (x ++ y) = true := by
  unfold PyData.strOk at hx hy ⊢
  show (x.cps ++ y.cps).all _ = true
  rw [Array.all_append, hx, hy]; rfl
theorem length_append_str (x y : Str) : (x ++ y).length = x.length + y.length := by
  show (x.cps ++ y.cps).size = _
  rw [Array.size_append]; rfl
theorem r_add : R2ok K addD (rAddAll K) := by
  intro v w H Ps d e x b c Q dom h1 h2 hx q
  cases d <;> cases e <;> first | (cases hx; done) | skip
  · cases h1.bl; cases h2.int; cases hx
    exact .inl ⟨_, _, rfl, rfl, q _ _ (Same.refl _) (.int _)⟩
  · -- ints
    cases h1.int; cases h2.int; cases hx
    exact .inr (.inl ⟨_, _, rfl, rfl, q _ _ (Same.refl _) (.int _)⟩)
  · obtain ⟨rfl, a1, a2⟩ := h1.str
    obtain ⟨rfl, b1, b2⟩ := h2.str
    rename_i s t
    simp only [addD] at hx
    by_cases z : fits (s.length + t.length) = true
    · rw [if_pos z] at hx; cases hx
      have z' : s.length + t.length ≤ sizeLine := of_decide_eq_true z
      exact .inr <| .inr (.inl ⟨_, _, rfl, rfl, z', q _ _ (Same.refl _) (.str (by rw [length_append_str]; exact z') (strOk_append a2 b2))⟩)
    · rw [if_neg z] at hx; cases hx
  · rename_i s t
    obtain ⟨a, xs, rfl, a1, a2, a3⟩ := h1.list
    obtain ⟨a', ys, rfl, b1, b2, b3⟩ := h2.list
    simp only [addD] at hx
    by_cases z : fits (s.length + t.length) = true
    · rw [if_pos z] at hx; cases hx
      have z' : s.length + t.length ≤ sizeLine := of_decide_eq_true z
      refine .inr <| .inr (.inr (.inl ⟨a, a', xs, ys, rfl, rfl, a1, b1, by rw [a2.length, b2.length]; exact z', fun p hp => ?_⟩))
      exact q _ _ (same_upd hp) (new_lst dom hp (a2.append b2) (by rw [List.length_append]; exact z'))
    · rw [if_neg z] at hx; cases hx
  · rename_i s t
    obtain ⟨a, xs, rfl, a1, a2, a3⟩ := h1.tuple
    obtain ⟨a', ys, rfl, b1, b2, b3⟩ := h2.tuple
    simp only [addD] at hx
    by_cases z : fits (s.length + t.length) = true
    · rw [if_pos z] at hx; cases hx
      have z' : s.length + t.length ≤ sizeLine := of_decide_eq_true z
      refine .inr <| .inr (.inr (.inr ⟨a, a', xs, ys, rfl, rfl, a1, b1, by rw [a2.length, b2.length]; exact z', fun hxs => ?_, fun hxs hys => ?_, fun hxs hys p hp => ?_⟩))
      · subst hxs
        have : s = [] := by have := a2.length; cases s with | nil => rfl | cons _ _ => simp at this
        subst this
        refine q _ _ (Same.refl _) ?_
        rcases h2 with h2 | ⟨_, h2⟩
        · exact h2
        · exact False.elim h2
      · subst hys
        have : t = [] := by have := b2.length; cases t with | nil => rfl | cons _ _ => simp at this
        subst this
        refine q _ _ (Same.refl _) ?_
        rw [List.append_nil]
        rcases h1 with h1 | ⟨_, h1⟩
        · exact h1
        · exact False.elim h1
      · exact q _ _ (same_upd hp) (new_tup dom hp (a2.append b2) (by rw [List.length_append]; exact z'))
    · rw [if_neg z] at hx; cases hx
theorem r_int2 {C : Int → Int → Prop} {g : Int → Int → V} {f : Int → Int → Res D} (hf : ∀ i j x, f i j = .ok x → C i j ∧ ∀ H, Rp K H (g i j) x) : R2ok K (int2D f) (rI C g) := by
  intro v w H Ps d e x b c Q dom h1 h2 hx q
  cases d with
  | int i =>
    cases e with
    | int j =>
      cases h1.int; cases h2.int
      obtain ⟨c1, c2⟩ := hf i j x hx
      exact ⟨i, j, rfl, rfl, c1, q _ _ (Same.refl _) (c2 _)⟩
    | _ => cases hx
  | _ => cases hx
theorem r_int20 {g : Int → Int → V} {f : Int → Int → Res D} (hf : ∀ i j x, f i j = .ok x → ∀ H, Rp K H (g i j) x) : R2ok K (int2D f) (rI0 g) := by
  intro v w H Ps d e x b c Q dom h1 h2 hx q
  cases d with
  | int i =>
    cases e with
    | int j =>
      cases h1.int; cases h2.int
      exact ⟨i, j, rfl, rfl, q _ _ (Same.refl _) (hf i j x hx _)⟩
    | _ => cases hx
  | _ => cases hx
def rSubAll : R2 := fun x y H Q => rBI (fun i j => i - j) x y H Q ∨ rIB (fun i j => i - j) x y H Q ∨ (rI0 fun i j => .int (i - j)) x y H Q
theorem r_sub : R2ok K subD rSubAll := by
  intro v w H Ps d e x b c Q dom h1 h2 hx q
  cases d <;> cases e <;> first | (cases hx; done) | skip
  · cases h1.bl; cases h2.int; cases hx
    exact .inl ⟨_, _, rfl, rfl, q _ _ (Same.refl _) (.int _)⟩
  · cases h1.int; cases h2.bl; cases hx
    exact .inr (.inl ⟨_, _, rfl, rfl, q _ _ (Same.refl _) (.int _)⟩)
  · cases h1.int; cases h2.int; cases hx
    exact .inr (.inr ⟨_, _, rfl, rfl, q _ _ (Same.refl _) (.int _)⟩)
theorem r_mod : R2ok K modD (rI (fun _ j => 0 < j) fun i j => .int (i % j)) := r_int2 fun i j x h => by
  split at h
  · rename_i z; cases h; have z' := of_decide_eq_true z; exact ⟨z', fun H => .int _⟩
  · cases h
theorem r_pow : R2ok K powD (rI CPow fun i j => .int (i ^ j.toNat)) := r_int2 fun i j x h => by
  split at h
  · rename_i z; cases h; have z' := of_decide_eq_true z; exact ⟨z', fun H => .int _⟩
  · cases h
theorem r_eq : R2ok K eqD (rEqM K) := by
  intro v w H Ps d e x b c Q dom h1 h2 hx q
  unfold eqD at hx
  split at hx
  · rename_i z
    cases hx
    simp only [eqOk, Bool.and_eq_true, decide_eq_true_eq] at z
    obtain ⟨a1, a2⟩ := h1.dp z.1.1
    obtain ⟨b1, b2⟩ := h2.dp z.1.2
    exact ⟨d, e, a1, b1, a2, b2, z.2, q _ _ (Same.refl _) (.bl _)⟩
  · cases hx
theorem r_ne : R2ok K neD (rNeM K) := by
  intro v w H Ps d e x b c Q dom h1 h2 hx q
  unfold neD at hx
  split at hx
  · rename_i z
    cases hx
    simp only [eqOk, Bool.and_eq_true, decide_eq_true_eq] at z
    obtain ⟨a1, a2⟩ := h1.dp z.1.1
    obtain ⟨b1, b2⟩ := h2.dp z.1.2
    exact ⟨d, e, a1, b1, a2, b2, z.2, q _ _ (Same.refl _) (.bl _)⟩
  · cases hx
def rLtAll : R2 := fun x y H Q => (rI0 fun i j => .bl (decide (i < j))) x y H Q ∨ (∃ i j, x = .str i ∧ y = .str j ∧ Q (.bl (decide (i.cps.toList < j.cps.toList))) H)
def rGtAll : R2 := fun x y H Q => (rI0 fun i j => .bl (decide (j < i))) x y H Q ∨ (∃ i j, x = .str i ∧ y = .str j ∧ Q (.bl (decide (j.cps.toList < i.cps.toList))) H)
def rGeAll : R2 := fun x y H Q => (rI0 fun i j => .bl (decide (j ≤ i))) x y H Q ∨ (∃ i j, x = .str i ∧ y = .str j ∧ Q (.bl (!decide (i.cps.toList < j.cps.toList))) H)
theorem r_gt : R2ok K gtD rGtAll := by
  intro v w H Ps d e x b c Q dom h1 h2 hx q
  cases d <;> cases e <;> first | (cases hx; done) | skip
  · cases h1.int; cases h2.int; cases hx
    exact .inl ⟨_, _, rfl, rfl, q _ _ (Same.refl _) (.bl _)⟩
  · obtain ⟨rfl, _, _⟩ := h1.str; obtain ⟨rfl, _, _⟩ := h2.str; cases hx
    exact .inr ⟨_, _, rfl, rfl, q _ _ (Same.refl _) (.bl _)⟩
theorem r_ge : R2ok K geD rGeAll := by
  intro v w H Ps d e x b c Q dom h1 h2 hx q
  cases d <;> cases e <;> first | (cases hx; done) | skip
  · cases h1.int; cases h2.int; cases hx
    exact .inl ⟨_, _, rfl, rfl, q _ _ (Same.refl _) (.bl _)⟩
  · obtain ⟨rfl, _, _⟩ := h1.str; obtain ⟨rfl, _, _⟩ := h2.str; cases hx
    exact .inr ⟨_, _, rfl, rfl, q _ _ (Same.refl _) (.bl _)⟩
def rLeAll : R2 := fun x y H Q => (rI0 fun i j => .bl (decide (i ≤ j))) x y H Q ∨ (∃ i j, x = .str i ∧ y = .str j ∧ Q (.bl (!decide (j.cps.toList < i.cps.toList))) H)
theorem r_lt : R2ok K ltD rLtAll := by
  intro v w H Ps d e x b c Q dom h1 h2 hx q
  cases d <;> cases e <;> first | (cases hx; done) | skip
  · cases h1.int; cases h2.int; cases hx
    exact .inl ⟨_, _, rfl, rfl, q _ _ (Same.refl _) (.bl _)⟩
  · obtain ⟨rfl, _, _⟩ := h1.str; obtain ⟨rfl, _, _⟩ := h2.str; cases hx
    exact .inr ⟨_, _, rfl, rfl, q _ _ (Same.refl _) (.bl _)⟩
theorem r_le : R2ok K leD rLeAll := by
  intro v w H Ps d e x b c Q dom h1 h2 hx q
  cases d <;> cases e <;> first | (cases hx; done) | skip
  · cases h1.int; cases h2.int; cases hx
    exact .inl ⟨_, _, rfl, rfl, q _ _ (Same.refl _) (.bl _)⟩
  · obtain ⟨rfl, _, _⟩ := h1.str; obtain ⟨rfl, _, _⟩ := h2.str; cases hx
    exact .inr ⟨_, _, rfl, rfl, q _ _ (Same.refl _) (.bl _)⟩
/-- which of V's forms a value has -/
theorem RL.form {H : Hp} {Ps : List Addr} {b : Bool} {v : V} {d : D} (h : RL K H Ps b v d) : decide (v = .non) = isNone d ∧ ∀ c, decide (v = .bl c) = isBool c d := by
  cases d with
  | none => cases h.non; exact ⟨rfl, fun c => rfl⟩
  | bool c' => cases h.bl; exact ⟨rfl, fun c => by cases c <;> cases c' <;> rfl⟩
  | int i => cases h.int; exact ⟨rfl, fun c => rfl⟩
  | str x => obtain ⟨rfl, _⟩ := h.str; exact ⟨rfl, fun c => rfl⟩
  | list ds => obtain ⟨a, xs, rfl, _⟩ := h.list; exact ⟨rfl, fun c => rfl⟩
  | tuple ds => obtain ⟨a, xs, rfl, _⟩ := h.tuple; exact ⟨rfl, fun c => rfl⟩
  | dict kvs =>
    rcases h with h | ⟨_, h⟩
    · cases h <;> exact ⟨rfl, fun c => rfl⟩
    · obtain ⟨p, ks, rfl, _⟩ := h
      exact ⟨rfl, fun c => rfl⟩
def rIsAll : R2 := fun x y H Q => (y = .non ∧ Q (.bl (decide (x = .non))) H) ∨ (∃ c, y = .bl c ∧ Q (.bl (decide (x = .bl c))) H)
def rIsNotAll : R2 := fun x y H Q => (y = .non ∧ Q (.bl (!decide (x = .non))) H) ∨ (∃ c, y = .bl c ∧ Q (.bl (!decide (x = .bl c))) H)
theorem r_is : R2ok K isD rIsAll := by
  intro v w H Ps d e x b c Q dom h1 h2 hx q
  obtain ⟨f1, f2⟩ := h1.form
  cases e with
  | none =>
    cases h2.non
    cases hx
    refine .inl ⟨rfl, ?_⟩
    rw [f1]
    exact q _ _ (Same.refl _) (.bl _)
  | bool e =>
    cases h2.bl
    cases hx
    refine .inr ⟨e, rfl, ?_⟩
    rw [f2]
    exact q _ _ (Same.refl _) (.bl _)
  | _ => cases hx
theorem r_isnot : R2ok K isnotD rIsNotAll := by
  intro v w H Ps d e x b c Q dom h1 h2 hx q
  obtain ⟨f1, f2⟩ := h1.form
  cases e with
  | none =>
    cases h2.non
    cases hx
    refine .inl ⟨rfl, ?_⟩
    rw [f1]
    exact q _ _ (Same.refl _) (.bl _)
  | bool e =>
    cases h2.bl
    cases hx
    refine .inr ⟨e, rfl, ?_⟩
    rw [f2]
    exact q _ _ (Same.refl _) (.bl _)
  | _ => cases hx
end
end Tq

/-! Tq, part E: further readings. -/
namespace Tq
open PySem L2 Res
section
variable {K : PySem.W.Frag}
/-- in -/
def rInDct (neg : Bool) : R2 := fun x y H Q => ∃ a o, y = .ref a ∧ DGet H a x o ∧ Q (.bl (if neg then !o.isSome else o.isSome)) H
theorem op_inDct {X : Cx} (hu : X.A.units + 64 < cLine) : OpR X (compareOp .In) (rInDct false) := by
  intro pins s σ H x y v u Q I rx ry h
  obtain ⟨a, o, rfl, g, q⟩ := h
  cases ry
  exact d_in (by omega) I g rx fun s3 I3 => ⟨.bl o.isSome, H, I3, rfl, q⟩
theorem op_notInDct {X : Cx} (hu : X.A.units + 64 < cLine) : OpR X (compareOp .NotIn) (rInDct true) := by
  intro pins s σ H x y v u Q I rx ry h
  obtain ⟨a, o, rfl, g, q⟩ := h
  cases ry
  exact d_notIn (by omega) I g rx fun s3 I3 => ⟨.bl (!o.isSome), H, I3, rfl, q⟩
theorem dget_of {H : Hp} {Ps : List Addr} {a : Addr} {ks : List (Key × V)} {k : Str} (h : Rd H a (.dK ks)) : DGet H a (.str k) (valV ks (.inr k)) := .inl ⟨ks, .inr k, h, rfl, rfl⟩
def rInAll (K : PySem.W.Frag) (neg : Bool) : R2 := fun x y H Q => rInDct neg x y H Q ∨ (∃ (c : Nat) (z : Str), x = .str ⟨#[c]⟩ ∧ y = .str z ∧ Q (.bl (if neg then !decide (c ∈ z.cps.toList) else decide (c ∈ z.cps.toList))) H) ∨ rInM K neg x y H Q
theorem one_sign {x : Str} (h : x.length = 1) : x = ⟨#[x.cps.getD 0 0]⟩ := by
  obtain ⟨cps⟩ := x
  have h' : cps.size = 1 := h
  cases cps with
  | mk l =>
    cases l with
    | nil => simp at h'
    | cons a r =>
      cases r with
      | nil => rfl
      | cons _ _ => simp at h'
theorem r_inB {neg : Bool} : ∀ (v w : V) (H : Hp) (Ps : List Addr) (d e : D) (x : Bool) (b c : Bool) (Q : VK), RL K H Ps b v d → RL K H Ps c w e → inB d e = .ok x → Q (.bl (if neg then !x else x)) H → rInAll K neg v w H Q := by
  intro v w H Ps d e x b c Q h1 h2 hx q
  have seq : ∀ ds, inSeq d ds = .ok x → (Dp K H w (.list ds) ∨ Dp K H w (.tuple ds)) → PyData.canLayAll0 ds = true → rInAll K neg v w H Q := fun ds hs hd hc => by
    unfold inSeq at hs
    split at hs
    · rename_i z
      cases hs
      simp only [inOk, Bool.and_eq_true, decide_eq_true_eq] at z
      obtain ⟨a1, a2⟩ := h1.dp z.1.1
      exact .inr (.inr ⟨d, ds, a1, hd, a2, hc, z.2, q⟩)
    · cases hs
  have nd : ∀ ds, inSeq d ds = .ok x → noDicts ds = true := fun ds hs => by
    unfold inSeq at hs
    split at hs
    · rename_i z
      simp only [inOk, Bool.and_eq_true, decide_eq_true_eq] at z
      exact z.1.2
    · cases hs
  cases e with
  | str y =>
    obtain ⟨rfl, _, _⟩ := h2.str
    cases d with
    | str z =>
      obtain ⟨rfl, _, _⟩ := h1.str
      have hx' : (if decide (z.length = 1) = true then Res.ok (decide (z.cps.getD 0 0 ∈ y.cps.toList)) else .bad) = .ok x := hx
      split at hx'
      · rename_i hz
        cases hx'
        exact .inr (.inl ⟨z.cps.getD 0 0, y, congrArg V.str (one_sign (of_decide_eq_true hz)), rfl, q⟩)
      · cases hx'
    | _ => cases hx
  | tuple ds =>
    obtain ⟨a1, a2⟩ := h2.dp (by simpa [noDict] using nd ds hx)
    exact seq ds hx (.inr a1) (by simpa [PyData.canLay0] using a2)
  | list ds =>
    obtain ⟨a1, a2⟩ := h2.dp (by simpa [noDict] using nd ds hx)
    exact seq ds hx (.inl a1) (by simpa [PyData.canLay0] using a2)
  | dict kvs =>
    cases d with
    | str k =>
      obtain ⟨rfl, _, _⟩ := h1.str
      have hx : (if isKeyed kvs = true then Res.ok (lookD k kvs).isSome else .bad) = .ok x := hx
      by_cases hk : isKeyed kvs = true
      · rw [if_pos hk] at hx
        cases hx
        obtain ⟨a, ks, rfl, e1, r, _⟩ := h2.dct hk
        rw [r.there k] at q
        exact .inl ⟨a, _, rfl, dget_of (Ps := Ps) e1, q⟩
      · rw [if_neg hk] at hx; cases hx
    | _ => cases hx
  | _ => cases hx
theorem r_in : R2ok K inD (rInAll K false) := by
  intro v w H Ps d e x b c Q dom h1 h2 hx q
  cases hb : inB d e with
  | ok t =>
    unfold inD at hx; rw [hb] at hx; cases hx
    exact r_inB v w H Ps d e t b c Q h1 h2 hb (q _ _ (Same.refl _) (.bl _))
  | exc _ _ => unfold inD at hx; rw [hb] at hx; cases hx
  | bad => unfold inD at hx; rw [hb] at hx; cases hx
theorem r_notin : R2ok K notinD (rInAll K true) := by
  intro v w H Ps d e x b c Q dom h1 h2 hx q
  cases hb : inB d e with
  | ok t =>
    unfold notinD at hx; rw [hb] at hx; cases hx
    exact r_inB v w H Ps d e t b c Q h1 h2 hb (q _ _ (Same.refl _) (.bl _))
  | exc _ _ => unfold notinD at hx; rw [hb] at hx; cases hx
  | bad => unfold notinD at hx; rw [hb] at hx; cases hx
/-- items -/
theorem atI_mem {α : Type} {xs : List α} {i : Int} {v : α} (h : L2.atI xs i = some v) : v ∈ xs := by
  obtain ⟨j, _, e, _⟩ := atI_get h
  exact List.mem_of_getElem? e
def rIxD : R2 := fun x y H Q => ∃ a v, x = .ref a ∧ DGet H a y (some v) ∧ Q v H
theorem ix_dct {X : Cx} (hu : X.A.units + 64 < cLine) : IxR X rIxD := by
  intro value slice pins s σ H x y v u Q I rx ry h hs
  obtain ⟨a, w, rfl, g, q⟩ := h
  cases rx
  exact PyProof.Rows.tail_any (dict_typeIs I g) PySem.F.slot_dict_getitem.lookup (d_getItem (by omega) I g ry fun w' s3 I3 rw' => ⟨w, H, I3, rw', q⟩) hs
def rIxAll (K : PySem.W.Frag) : R2 := fun x y H Q => rIxD x y H Q ∨ rIx K x y H Q
theorem keyed_of_look {k : Str} : ∀ {kvs : List (D × D)} {d : D}, lookD k kvs = some d → (∃ xs, kvs = [(PyData.none, PyData.list xs)]) → False
  | _, d, h, ⟨xs, e⟩ => by subst e; cases h
theorem r_idx : R2ok K idxD (rIxAll K) := by
  intro v w H Ps d e x b c Q dom h1 h2 hx q
  cases d with
  | list xs =>
    cases e with
    | int i =>
      cases h2.int
      obtain ⟨a, vs, rfl, e1, r, _⟩ := h1.list
      have hx' : (match L2.atI xs i with | some d => Res.ok d | none => .bad) = .ok x := hx
      cases ha : L2.atI xs i with
      | none => rw [ha] at hx'; cases hx'
      | some y =>
        rw [ha] at hx'; cases hx'
        obtain ⟨u, hu, ru⟩ := r.atI ha
        exact .inr <| .inl ⟨a, vs, i, u, rfl, rfl, SqL.of e1, hu, q _ _ (Same.refl _) ru⟩
    | _ => cases hx
  | tuple xs =>
    cases e with
    | int i =>
      cases h2.int
      obtain ⟨a, vs, rfl, e1, r, _⟩ := h1.tuple
      have hx' : (match L2.atI xs i with | some d => Res.ok d | none => .bad) = .ok x := hx
      cases ha : L2.atI xs i with
      | none => rw [ha] at hx'; cases hx'
      | some y =>
        rw [ha] at hx'; cases hx'
        obtain ⟨u, hu, ru⟩ := r.atI ha
        exact .inr <| .inr (.inl ⟨a, vs, i, u, rfl, rfl, e1, hu, q _ _ (Same.refl _) ru⟩)
    | _ => cases hx
  | str y =>
    cases e with
    | int i =>
      cases h2.int
      obtain ⟨rfl, z1, z2⟩ := h1.str
      have hx' : (match L2.atI y.cps.toList i with | some c => Res.ok (PyData.str ⟨#[c]⟩) | none => .bad) = .ok x := hx
      cases ha : L2.atI y.cps.toList i with
      | none => rw [ha] at hx'; cases hx'
      | some c =>
        rw [ha] at hx'; cases hx'
        exact .inr <| .inr (.inr ⟨y, i, c, rfl, rfl, z1, ha, q _ _ (Same.refl _) (Rp.sing z2 (atI_mem ha))⟩)
    | _ => cases hx
  | dict kvs =>
    rcases h1 with h1 | ⟨_, h1⟩
    · cases h1 with
      | scr hs r z =>
        rename_i a vs xs
        cases e with
        | int i =>
          cases h2.int
          have hx' : (match L2.atI xs i with | some d => Res.ok d | none => .bad) = .ok x := hx
          cases ha : L2.atI xs i with
          | none => rw [ha] at hx'; cases hx'
          | some y =>
            rw [ha] at hx'; cases hx'
            obtain ⟨u, hu, ru⟩ := r.atI ha
            exact .inr <| .inl ⟨_, _, i, u, rfl, rfl, (hide_le _ _).seq hs, hu, q _ _ (Same.refl _) ru⟩
        | _ => cases hx
      | dct hs r z =>
        rename_i a ks
        have hx : getD' kvs e = .ok x := by
          cases r with
          | nil => exact hx
          | cons _ _ _ _ => exact hx
        cases e with
        | str k =>
          obtain ⟨rfl, _, _⟩ := h2.str
          have hx' : (match lookD k kvs with | some d => Res.ok d | none => .bad) = .ok x := hx
          cases ha : lookD k kvs with
          | none => rw [ha] at hx'; cases hx'
          | some y =>
            rw [ha] at hx'; cases hx'
            obtain ⟨u, hu, ru⟩ := (r.look k).1 _ ha
            have hs' : Rd H a (.dK ks) := hs.elim (fun q => .inl (hide_le _ _ _ _ q)) fun ⟨o, q⟩ => .inr ⟨o, hide_le _ _ _ _ q⟩
            exact .inl ⟨_, u, rfl, hu ▸ dget_of (Ps := Ps) hs', q _ _ (Same.refl _) ru⟩
        | _ => cases hx
    · obtain ⟨p, ks, rfl, hp, e1, r, z⟩ := h1
      have hx : getD' kvs e = .ok x := by
        cases r with
        | nil => exact hx
        | cons _ _ _ _ => exact hx
      cases e with
      | str k =>
        obtain ⟨rfl, _, _⟩ := h2.str
        have hx' : (match lookD k kvs with | some d => Res.ok d | none => .bad) = .ok x := hx
        cases ha : lookD k kvs with
        | none => rw [ha] at hx'; cases hx'
        | some y =>
          rw [ha] at hx'; cases hx'
          obtain ⟨u, hu, ru⟩ := (r.look k).1 _ ha
          exact .inl ⟨_, u, rfl, hu ▸ dget_of (Ps := Ps) (.inl e1), q _ _ (Same.refl _) ru⟩
      | _ => cases hx
  | _ => cases hx
/-- len -/
theorem r_len : R1ok K lenD (fun v H Q => ∃ x n, [v] = [x] ∧ LenV K x H n ∧ Q (.int n) H) := by
  intro v H Ps d x b Q dom h1 hx q
  cases d with
  | str s =>
    obtain ⟨rfl, z1, z2⟩ := h1.str
    cases hx
    exact ⟨_, _, rfl, ⟨z1, rfl⟩, q _ _ (Same.refl _) (.int _)⟩
  | list xs =>
    obtain ⟨a, vs, rfl, e1, r, _⟩ := h1.list
    cases hx
    exact ⟨_, _, rfl, .inl ⟨vs, SqL.of e1, rfl⟩, by rw [r.length]; exact q _ _ (Same.refl _) (.int _)⟩
  | tuple xs =>
    obtain ⟨a, vs, rfl, e1, r, _⟩ := h1.tuple
    cases hx
    exact ⟨_, _, rfl, .inr ⟨vs, e1, rfl⟩, by rw [r.length]; exact q _ _ (Same.refl _) (.int _)⟩
  | dict kvs =>
    rcases h1 with h1 | ⟨_, h1⟩
    · cases h1 with
      | scr hs r z =>
        cases hx
        exact ⟨_, _, rfl, .inl ⟨_, (hide_le _ _).seq hs, rfl⟩, by rw [r.length]; exact q _ _ (Same.refl _) (.int _)⟩
      | dct hs r z =>
        cases r with
        | nil => cases hx
        | cons _ _ _ _ => cases hx
    · obtain ⟨p, ks, rfl, hp, e1, r, z⟩ := h1
      cases r with
      | nil => cases hx
      | cons _ _ _ _ => cases hx
  | _ => cases hx
theorem r_tuple : R1ok K tupleD (fun v H Q => ∃ p ys, [v] = [.ref p] ∧ ((SqL K H p ys ∧ ∀ l, H l = none → Q (.ref l) (upd H l (.tup ys))) ∨ (SqT K H p ys ∧ Q (.ref p) H))) := by
  intro v H Ps d x b Q dom h1 hx q
  cases d with
  | list xs =>
    obtain ⟨a, vs, rfl, e1, r, z⟩ := h1.list
    cases hx
    exact ⟨a, vs, rfl, .inl ⟨SqL.of e1, fun l hl => q _ _ (same_upd hl) (new_tup dom hl r z)⟩⟩
  | tuple xs =>
    obtain ⟨a, vs, rfl, e1, r, z⟩ := h1.tuple
    cases hx
    refine ⟨a, vs, rfl, .inr ⟨e1, q _ _ (Same.refl _) ?_⟩⟩
    rcases h1 with h | ⟨_, h⟩
    · exact h
    · exact False.elim h
  | _ => cases hx
theorem r_list : R1ok K listD (fun v H Q => ∃ p ys, [v] = [.ref p] ∧ (SqL K H p ys ∨ SqT K H p ys) ∧ ∀ l, H l = none → Q (.ref l) (upd H l (.lst ys))) := by
  intro v H Ps d x b Q dom h1 hx q
  cases d with
  | list xs =>
    obtain ⟨a, vs, rfl, e1, r, z⟩ := h1.list
    cases hx
    exact ⟨a, vs, rfl, .inl (SqL.of e1), fun l hl => q _ _ (same_upd hl) (new_lst dom hl r z)⟩
  | tuple xs =>
    obtain ⟨a, vs, rfl, e1, r, z⟩ := h1.tuple
    cases hx
    exact ⟨a, vs, rfl, .inr e1, fun l hl => q _ _ (same_upd hl) (new_lst dom hl r z)⟩
  | _ => cases hx
theorem bools_of : ∀ {H : Hp} {vs : List V} {ds : List D} {bs : List Bool}, RpAll K H vs ds → boolsD ds = some bs → vs = bs.map V.bl
  | _, _, _, _, .nil, e => by cases e; rfl
  | H, _, _, bs, .cons (d := d) (ds := ds) h r, e => by
    cases d with
    | bool b =>
      have e' : (boolsD ds).map (b :: ·) = some bs := e
      cases q : boolsD ds with
      | none => rw [q] at e'; cases e'
      | some cs =>
        rw [q] at e'; cases e'
        cases h
        rw [bools_of r q]; rfl
    | _ => cases e
theorem r_any : R1ok K anyD (fun v H Q => rAny K [v] H Q) := by
  intro v H Ps d x b Q dom h1 hx q
  cases d with
  | list xs =>
    obtain ⟨a, vs, rfl, e1, r, z⟩ := h1.list
    have hx' : (match boolsD xs with | some bs => Res.ok (PyData.bool (bs.any id)) | none => .bad) = .ok x := hx
    cases hb : boolsD xs with
    | none => rw [hb] at hx'; cases hx'
    | some bs =>
      rw [hb] at hx'; cases hx'
      exact ⟨a, bs, rfl, SqL.of (by rw [← bools_of r hb]; exact e1), q _ _ (Same.refl _) (.bl _)⟩
  | _ => cases hx
theorem r_all : R1ok K allD (fun v H Q => rAll K [v] H Q) := by
  intro v H Ps d x b Q dom h1 hx q
  cases d with
  | list xs =>
    obtain ⟨a, vs, rfl, e1, r, z⟩ := h1.list
    have hx' : (match boolsD xs with | some bs => Res.ok (PyData.bool (bs.all id)) | none => .bad) = .ok x := hx
    cases hb : boolsD xs with
    | none => rw [hb] at hx'; cases hx'
    | some bs =>
      rw [hb] at hx'; cases hx'
      exact ⟨a, bs, rfl, SqL.of (by rw [← bools_of r hb]; exact e1), q _ _ (Same.refl _) (.bl _)⟩
  | _ => cases hx
theorem r_neg : R1ok K negD (rU fun i => .int (-i)) := by
  intro v H Ps d x b Q dom h1 hx q
  cases d with
  | int i => cases h1.int; cases hx; exact ⟨i, rfl, q _ _ (Same.refl _) (.int _)⟩
  | _ => cases hx
theorem r_int : R1ok K intD (fun v H Q => (∃ i, [v] = [.int i] ∧ Q (.int i) H) ∨ ∃ k, [v] = [.bl k] ∧ Q (.int (if k then 1 else 0)) H) := by
  intro v H Ps d x b Q dom h1 hx q
  cases d with
  | int i => cases h1.int; cases hx; exact .inl ⟨i, rfl, q _ _ (Same.refl _) (.int _)⟩
  | bool k => cases h1.bl; cases hx; exact .inr ⟨k, rfl, q _ _ (Same.refl _) (.int _)⟩
  | _ => cases hx
theorem r_not : R1ok K notD (fun v H Q => ∃ k, TruV K v H k ∧ Q (.bl (!k)) H) := by
  intro v H Ps d x b Q dom h1 hx q
  cases ht : truth d with
  | ok t => unfold notD at hx; rw [ht] at hx; cases hx; exact ⟨t, tru_of h1 ht, q _ _ (Same.refl _) (.bl _)⟩
  | exc _ _ => unfold notD at hx; rw [ht] at hx; cases hx
  | bad => unfold notD at hx; rw [ht] at hx; cases hx
/-- join -/
theorem strs_of : ∀ {H : Hp} {vs : List V} {ds : List D} {xs : List Str}, RpAll K H vs ds → strsD ds = some xs → vs = xs.map V.str ∧ ∀ x ∈ xs, PyData.strOk x = true
  | _, _, _, _, .nil, e => by cases e; exact ⟨rfl, fun _ h => nomatch h⟩
  | H, _, _, xs, .cons (d := d) (ds := ds) h r, e => by
    cases d with
    | str b =>
      have e' : (strsD ds).map (b :: ·) = some xs := e
      cases q : strsD ds with
      | none => rw [q] at e'; cases e'
      | some cs =>
        rw [q] at e'; cases e'
        cases h with
        | str h1 h2 =>
          obtain ⟨h3, h4⟩ := strs_of r q
          exact ⟨by rw [h3]; rfl, fun x hx => (List.mem_cons.mp hx).elim (fun z => z ▸ h2) (h4 x)⟩
    | _ => cases e
end
end Tq

/-! Tq, part Q: products, slices, texts, what is unlike. -/
namespace Tq
open PySem L2 Res
section
variable {X : Cx}
theorem rep_cps (c : Array Nat) : ∀ (n : Nat) (acc : Array Nat), (List.replicate n c).foldl (· ++ ·) acc = acc ++ (List.replicate n c).foldl (· ++ ·) #[]
  | 0, acc => by simp
  | n + 1, acc => by
    simp only [List.replicate_succ, List.foldl_cons]
    rw [rep_cps c n (acc ++ c), rep_cps c n (#[] ++ c)]
    simp
theorem rep_size (c : Array Nat) : ∀ n : Nat, ((List.replicate n c).foldl (· ++ ·) #[]).size = n * c.size
  | 0 => by simp
  | n + 1 => by
    simp only [List.replicate_succ, List.foldl_cons]
    rw [rep_cps c n, Array.size_append, rep_size c n, Nat.add_mul]
    simp; omega
theorem rep_all (c : Array Nat) (f : Nat → Bool) (h : c.all f = true) : ∀ n : Nat, ((List.replicate n c).foldl (· ++ ·) #[]).all f = true
  | 0 => by simp
  | n + 1 => by
    simp only [List.replicate_succ, List.foldl_cons]
    rw [rep_cps c n, Array.all_append, rep_all c f h n]
    simp [h]
theorem rep_zero {c : Array Nat} (h : c.size = 0) : ∀ n : Nat, (List.replicate n c).foldl (· ++ ·) #[] = c
  | 0 => by simp; exact Array.eq_empty_of_size_eq_zero h
  | n + 1 => by
    simp only [List.replicate_succ, List.foldl_cons]
    rw [rep_cps c n, rep_zero h n, Array.eq_empty_of_size_eq_zero h]
    simp
def rRepS : R2 := fun x y H Q => ∃ z k, x = .str z ∧ y = .int k ∧ 0 ≤ k ∧ k ≤ 1000 ∧ z.length ≤ 1000 ∧ Q (.str ⟨(List.replicate k.toNat z.cps).foldl (· ++ ·) #[]⟩) H
theorem op_repS : OpR X (binaryOp .Mult) rRepS := by
  intro pins s σ H x y v u Q I rx ry h
  obtain ⟨z, k, rfl, rfl, h0, h1, h2, q⟩ := h
  obtain ⟨t, rfl⟩ := rx
  obtain ⟨t', rfl⟩ := ry
  have hm : z.length * k.toNat ≤ 1000 * 1000 := Nat.mul_le_mul h2 (by omega)
  have hd : ¬ (k < 1) → ¬ ((z.length : Int) > (2 ^ 63 - 1) / k) := fun hk hg => by
    have : (1001 : Int) ≤ (2 ^ 63 - 1) / k := (Int.le_ediv_iff_mul_le (by omega)).mpr (by omega)
    omega
  have hsz : ∀ n : Nat, n ≤ 1000 → ((List.replicate n z.cps).foldl (· ++ ·) #[]).size ≤ sizeLine := fun n hn => by
    rw [rep_size, sizeLine_eq]
    have : n * z.cps.size ≤ 1000 * 1000 := Nat.mul_le_mul hn h2
    omega
  refine PySem.P.mul_str ?_ (fun a _ => hd a) (fun a _ => ?_) ?_
  · rw [decide_eq_false (by omega), decide_eq_false (by omega)]; rfl
  · exact decide_eq_false (by rw [sizeLine_eq]; omega)
  · by_cases c1 : k < 1
    · rw [if_pos c1]
      have : k.toNat = 0 := by omega
      rw [this] at q
      exact ⟨by decide, ⟨.str Str.empty, H, I.tok _, ⟨_, rfl⟩, q⟩⟩
    · rw [if_neg c1]
      by_cases c2 : (k == 1 || z.length == 0) = true
      · rw [if_pos c2]
        have e : (List.replicate k.toNat z.cps).foldl (· ++ ·) #[] = z.cps := by
          simp only [Bool.or_eq_true, beq_iff_eq] at c2
          rcases c2 with c2 | c2
          · subst c2; simp
          · exact rep_zero c2 _
        rw [e] at q
        exact ⟨.str z, H, I, ⟨_, rfl⟩, q⟩
      · rw [if_neg c2]
        exact ⟨hsz _ (by omega), ⟨.str _, H, I.tok _, ⟨_, rfl⟩, q⟩⟩
end
section
variable {K : PySem.W.Frag}
theorem RpAll.rep {H : Hp} {xs : List V} {ds : List D} (r : RpAll K H xs ds) : ∀ n : Nat, RpAll K H (List.replicate n xs).flatten (List.replicate n ds).flatten
  | 0 => .nil
  | n + 1 => by
    rw [List.replicate_succ, List.replicate_succ, List.flatten_cons, List.flatten_cons]
    exact r.append (RpAll.rep r n)
theorem flat_len {α : Type} (xs : List α) : ∀ n : Nat, (List.replicate n xs).flatten.length = n * xs.length
  | 0 => by simp
  | n + 1 => by rw [List.replicate_succ, List.flatten_cons, List.length_append, flat_len xs n, Nat.add_mul]; omega
def rMulAll : R2 := fun x y H Q => rBI (fun i j => i * j) x y H Q ∨ (rI CMul fun i j => .int (i * j)) x y H Q ∨ rRep x y H Q ∨ rRepS x y H Q
theorem r_mul : R2ok K mulD rMulAll := by
  intro v w H Ps d e x b c Q dom h1 h2 hx q
  cases d <;> cases e <;> first | (cases hx; done) | skip
  · cases h1.bl; cases h2.int; cases hx
    exact .inl ⟨_, _, rfl, rfl, q _ _ (Same.refl _) (.int _)⟩
  · rename_i i j
    cases h1.int; cases h2.int
    have hx : (if mulOk i j then Res.ok (PyData.int (i * j)) else .bad) = .ok x := hx
    split at hx
    · rename_i z; cases hx; have z' := of_decide_eq_true z
      exact .inr (.inl ⟨i, j, rfl, rfl, z', q _ _ (Same.refl _) (.int _)⟩)
    · cases hx
  · rename_i s k
    obtain ⟨rfl, z1, z2⟩ := h1.str; cases h2.int
    have hx : (if repOk s.length k then Res.ok (PyData.str ⟨(List.replicate k.toNat s.cps).foldl (· ++ ·) #[]⟩) else .bad) = .ok x := hx
    split at hx
    · rename_i z; cases hx; have z' := of_decide_eq_true z
      refine .inr <| .inr (.inr ⟨s, k, rfl, rfl, z'.1, z'.2.1, z'.2.2, q _ _ (Same.refl _) (.str ?_ (rep_all _ _ z2 _))⟩)
      show ((List.replicate k.toNat s.cps).foldl (· ++ ·) #[]).size ≤ sizeLine
      rw [rep_size, sizeLine_eq]
      have : k.toNat * s.cps.size ≤ 1000 * 1000 := Nat.mul_le_mul (by omega) z'.2.2
      omega
    · cases hx
  · rename_i s k
    obtain ⟨a, xs, rfl, e1, r, z1⟩ := h1.list; cases h2.int
    have hx : (if repOk s.length k then Res.ok (PyData.list (List.replicate k.toNat s).flatten) else .bad) = .ok x := hx
    split at hx
    · rename_i z; cases hx; have z' := of_decide_eq_true z
      have hz : (List.replicate k.toNat s).flatten.length ≤ sizeLine := by
        rw [flat_len, sizeLine_eq]
        have : k.toNat * s.length ≤ 1000 * 1000 := Nat.mul_le_mul (by omega) z'.2.2
        omega
      refine .inr <| .inr (.inl ⟨a, k, xs, rfl, rfl, e1, by omega, by omega, ?_, fun p hp => q _ _ (same_upd hp) (new_lst dom hp (r.rep _) hz)⟩)
      rw [flat_len] at hz
      rw [r.length, Nat.mul_comm]; exact hz
    · cases hx
/-- slices -/
theorem RpAll.cut {H : Hp} {xs : List V} {ds : List D} (r : RpAll K H xs ds) (lo hi : Option Int) : RpAll K H (cutV xs lo hi) (cutL ds lo hi) := by
  unfold cutV cutL
  rw [r.length]
  exact (r.drop _).take _
theorem cutL_len {α : Type} (xs : List α) (lo hi : Option Int) : (cutL xs lo hi).length ≤ xs.length := by
  unfold cutL
  rw [List.length_take, List.length_drop]
  omega
theorem cutL_all {α : Type} {xs : List α} {lo hi : Option Int} (h : HT.sIx xs.length 0 lo = 0 ∧ HT.sIx xs.length xs.length hi = xs.length) : cutL xs lo hi = xs := by
  unfold cutL
  rw [h.1, h.2]
  simp
theorem cutS_ok {x : Str} {lo hi : Option Int} (h : PyData.strOk x = true) : PyData.strOk (cutS x lo hi) = true := by
  unfold PyData.strOk at h ⊢
  rw [Array.all_eq_true_iff_forall_mem] at h ⊢
  intro c hc
  refine h c ?_
  unfold cutS at hc
  have hc := List.mem_toArray.mp hc
  exact Array.mem_def.mpr (List.mem_of_mem_drop (List.mem_of_mem_take hc))
def rSlAll (K : PySem.W.Frag) : V → Option Int → Option Int → Hp → VK → Prop := fun x lo hi H Q => rSlL K x lo hi H Q ∨ rSlA K x lo hi H Q ∨ rSlS x lo hi H Q
theorem sl_all {X : Cx} : SlR X (rSlAll X.K) := sl_list.or (sl_tupA.or sl_str)
theorem r_sl {v : V} {H : Hp} {Ps : List Addr} {d x : D} {b : Bool} {lo hi : Option Int} {Q : VK} (dom : ∀ q ∈ Ps, H q ≠ none) (h : RL K H Ps b v d) (hx : cutD lo hi d = .ok x) (q : ∀ u H', Same H H' → Rp K (hide H' Ps) u x → Q u H') : rSlAll K v lo hi H Q := by
  cases d with
  | list xs =>
    obtain ⟨a, vs, rfl, e1, r, z⟩ := h.list
    cases hx
    exact .inl ⟨a, vs, rfl, SqL.of e1, fun p hp => q _ _ (same_upd hp) (new_lst dom hp (r.cut lo hi) (Nat.le_trans (cutL_len _ _ _) z))⟩
  | tuple xs =>
    obtain ⟨a, vs, rfl, e1, r, z⟩ := h.tuple
    cases hx
    refine .inr (.inl ⟨a, vs, rfl, e1, fun hw => ?_, fun hw p hp => q _ _ (same_upd hp) (new_tup dom hp (r.cut lo hi) (Nat.le_trans (cutL_len _ _ _) z))⟩)
    rw [r.length] at hw
    rw [cutL_all hw] at q
    refine q _ _ (Same.refl _) ?_
    rcases h with h | ⟨_, h⟩
    · exact h
    · exact False.elim h
  | str y =>
    obtain ⟨rfl, z1, z2⟩ := h.str
    cases hx
    exact .inr (.inr ⟨y, rfl, z1, q _ _ (Same.refl _) (.str (Nat.le_trans (cutS_length y lo hi) z1) (cutS_ok z2))⟩)
  | _ => cases hx
end
end Tq

/-! Tq, part R: a tuple or list turned about; how many texts are unlike. -/
namespace Tq
open PySem L2 Res
theorem turn_pick (xs : Array Value) : ((List.range xs.size).filterMap fun (m : Nat) => xs[(((xs.size : Int) - 1) + (m : Int) * (-1)).toNat]?).toArray = xs.toList.reverse.toArray := by
  congr 1
  have e : ∀ m ∈ List.range xs.size, xs[(((xs.size : Int) - 1) + (m : Int) * (-1)).toNat]? = some (xs.toList.reverse.getD m .none) := fun m hm => by
    have hm := List.mem_range.mp hm
    have q : (((xs.size : Int) - 1) + (m : Int) * (-1)).toNat = xs.size - 1 - m := by omega
    rw [q, List.getD_eq_getElem?_getD, List.getElem?_reverse (by simpa using hm)]
    have hl : xs.size - 1 - m < xs.size := by omega
    simp [hl]
  have e2 : ∀ l : List Nat, (∀ m ∈ l, xs[(((xs.size : Int) - 1) + (m : Int) * (-1)).toNat]? = some (xs.toList.reverse.getD m .none)) → (l.filterMap fun (m : Nat) => xs[(((xs.size : Int) - 1) + (m : Int) * (-1)).toNat]?) = l.map fun m => xs.toList.reverse.getD m .none := fun l => by
    induction l with
    | nil => intro _; rfl
    | cons a l ih =>
      intro h
      rw [List.filterMap_cons, h a (by simp), List.map_cons, ih fun m hm => h m (List.mem_cons_of_mem _ hm)]
  rw [e2 _ e]
  apply List.ext_getElem?
  intro i
  rw [List.getElem?_map]
  by_cases hi : i < xs.size
  · have h2 : i < xs.toList.reverse.length := by simpa using hi
    rw [List.getElem?_range hi]
    show some (xs.toList.reverse.getD i .none) = _
    rw [List.getD_eq_getElem?_getD, List.getElem?_eq_getElem h2]
    rfl
  · rw [List.getElem?_eq_none (by simpa using hi)]
    rw [List.getElem?_eq_none (by simpa using hi)]
    rfl
section
variable {prog : Program} {w : World} {A : Around} {E : Value → Shared → Prop} {s : Shared}
theorem turned_slice {sl : Addr} {vs : Value} {n : Nat} {Q : Int × Int × Nat → Shared → Prop} (hs : s.heap.IsSliceOf sl .none .none vs) (ps : IsPart vs (some (-1)))
    (h : Q ((n : Int) - 1, -1, n) s) : wpAny (model prog w) A (Builtin.Slice.sliceApplied (.ref sl) (pure (n : Int))) Q E s := by
  obtain ⟨os, hos, hcs, hds⟩ := hs
  unfold Builtin.Slice.sliceApplied Builtin.Slice.sliceFields
  refine wpAny_bind (wpAny_bind (wpAny_field hos hds (x := .none) rfl (wpAny_bind (wpAny_field hos hds (x := .none) rfl (wpAny_bind (wpAny_field hos hds (x := vs) rfl (wpAny_pure ?_)))))))
  refine wpAny_bind (HT.slicePart_ ps ?_)
  show wpAny _ _ (if ((-1 : Int) == 0) = true then _ else _) _ _ s
  rw [if_neg (by decide)]
  refine wpAny_bind (HT.slicePart_ .none (wpAny_bind (HT.slicePart_ .none (wpAny_bind (wpAny_pure ?_)))))
  have e1 : Builtin.Slice.sliceAdjust none none (-1) (n : Int) = ((n : Int) - 1, -1) := rfl
  show wpAny _ _ (match Builtin.Slice.sliceAdjust none none (-1) (n : Int) with | (lo, hi) => pure (lo, (-1 : Int), Builtin.Slice.slicePlaces lo hi (-1))) _ _ s
  rw [e1]
  have e2 : Builtin.Slice.slicePlaces ((n : Int) - 1) (-1) (-1) = n := by
    unfold Builtin.Slice.slicePlaces
    have h1 : ¬ ((-1 : Int) > 0) := by omega
    simp only [h1, if_false, Int.neg_neg, Int.ediv_one]
    split <;> omega
  show wpAny _ _ (pure ((n : Int) - 1, (-1 : Int), Builtin.Slice.slicePlaces ((n : Int) - 1) (-1) (-1))) _ _ s
  rw [e2]
  exact wpAny_pure h
theorem turned_tuple {t sl : Addr} {xs : Array Value} {vs : Value} {Q : Value → Shared → Prop} (ht : PyProof.Rows.IsTup s.heap t xs) (hs : s.heap.IsSliceOf sl .none .none vs) (ps : IsPart vs (some (-1)))
    (h : Q (.ref s.heap.objs.size) { s with heap := s.heap.push { cls := .type "tuple", data := .seq xs.toList.reverse.toArray } }) (hz : xs.size ≤ sizeLine) : wpAny (model prog w) A (getItem (.ref t) (.ref sl)) Q E s := by
  have ok : sizeOk (.seq xs.toList.reverse.toArray) := by
    show xs.toList.reverse.toArray.size ≤ sizeLine
    simpa using hz
  obtain ⟨os, hos, hcs, hds⟩ := id hs
  have ty : s.TypeIs (.ref sl) "slice" := ⟨os, hos, hcs⟩
  unfold getItem
  try with_reducible refine wpAny_holding ?_
  first | refine wpAny_bind (wpAny_pure ?_) | skip
  refine wpAny_bind (wpAny_sequenceKey ht.typeIs (by decide) ?_)
  refine wpAny_bind (wpAny_callSpecial?_slot (name := Str.ofString "__getitem__") ht.typeIs PyProof.Rows.slot_tuple_getitem (wpAny_call_entry PyProof.Rows.slot_tuple_getitem ht.typeIs PyProof.Rows.entry_tuple_getitem ?_ (PyProof.Rows.args_tuple_getitem _ _)))
  show wpAny _ _ (Builtin.Tuple.tupleItemsOf (.ref t) >>= _) _ _ s
  refine wpAny_bind (PyProof.Rows.tupleItemsOf_ ht ?_)
  refine wpAny_bind (wpAny_typeOf ty ?_)
  rw [if_pos (by decide)]
  refine wpAny_bind (turned_slice hs ps ?_)
  have no : ¬ ((((xs.size : Int) - 1) == 0 && (-1 : Int) == 1 && xs.size == xs.size) = true) := by
    intro q
    rw [Bool.and_eq_true, Bool.and_eq_true] at q
    exact absurd q.1.2 (by decide)
  show wpAny _ _ (if (((xs.size : Int) - 1) == 0 && (-1 : Int) == 1 && xs.size == xs.size) = true then _ else _) _ _ s
  rw [if_neg no, turn_pick]
  first
    | exact wpAny_bind (m := Builtin.Tuple.tupleExact _) (wpAny_newObj_type (wpAny_pure ⟨_, rfl, wpAny_pure h⟩) ok)
    | exact wpAny_bind (m := Builtin.Tuple.tupleExact _) (wpAny_newObj_type (wpAny_bind (wpAny_pure (wpAny_pure ⟨_, rfl, wpAny_pure h⟩))) ok)
    | exact wpAny_bind (wpAny_bind (m := Builtin.Tuple.tupleExact _) (wpAny_newObj_type (wpAny_pure (wpAny_pure ⟨_, rfl, wpAny_pure h⟩)) ok))
    | exact wpAny_bind (wpAny_bind (m := Builtin.Tuple.tupleExact _) (wpAny_newObj_type (wpAny_pure ⟨_, rfl, wpAny_pure h⟩) ok))
end
section
variable {X : Cx}
def rTurn (K : PySem.W.Frag) : V → Hp → VK → Prop := fun x H Q => (∃ a xs, x = .ref a ∧ SqL K H a xs ∧ ∀ p, H p = none → Q (.ref p) (upd H p (.lst xs.reverse))) ∨ ∃ a xs, x = .ref a ∧ SqT K H a xs ∧ ∀ p, H p = none → Q (.ref p) (upd H p (.tup xs.reverse))
theorem pe_turn {e : Expr} {te : TE} {k : Nat} {p1 p2 p3 pos : Pos} (he : PE X e te) : PE X (.Subscript e (.Slice none none (some (.UnaryOp .USub (.Constant (.int 1) k p1) p2)) p3) pos) (tUn (rTurn X.K) te) := by
  refine ⟨fun pins s σ H Q I h => ?_⟩
  refine PyProof.Rows.Subscript_ (thn (he.run pins s σ H _ I h) fun v s1 ⟨x, H1, I1, r1, q1⟩ => ?_)
  have hst : PO X (some (.UnaryOp .USub (.Constant (.int 1) k p1) p2)) (tPart (tUn (rU fun i => .int (-i)) (tC (.int 1)))) := po_some (pe_un un_neg pe_int)
  refine wpAny_Slice (thn (po_none.run pins s1 σ H1 (fun o H2 => o = none ∧ H2 = H1) I1 ⟨rfl, rfl⟩) fun vl s2 ⟨l, H2, I2, pl, el, e2⟩ => ?_)
  subst el e2
  refine thn (po_none.run pins s2 σ H2 (fun o H3 => o = none ∧ H3 = H2) I2 ⟨rfl, rfl⟩) fun vu s3 ⟨u, H3, I3, pu, eu, e3⟩ => ?_
  subst eu e3
  refine thn (hst.run pins s3 σ H3 (fun o H4 => o = some (-1) ∧ H4 = H3) I3 ⟨1, rfl, -1, rfl, rfl, rfl⟩) fun vs s4 ⟨o, H4, I4, ps, eo, e4⟩ => ?_
  subst eo e4
  have I5 : Inv X pins σ H4 { s4 with heap := s4.heap.push { cls := .type "slice", data := .fields #[vl, vu, vs] } } := I4.kept (t' := s4.toks) fun b ob q => Heap.get?_push_of_some _ q
  rcases q1 with ⟨a, xs, ex, hx, q⟩ | ⟨a, xs, ex, hx, q⟩
  · subst ex
    cases r1
    obtain ⟨its, r, ht, hz⟩ := I5.list hx
    have hlen := r.length
    show wpAny (model X.prog X.w) X.A (PyProof.Rows.subscriptTail e (.Slice none none (some (.UnaryOp .USub (.Constant (.int 1) k p1) p2)) p3) (.ref a) (.ref s4.heap.objs.size)) (EP X pins σ Q) X.xe _
    refine PyProof.Rows.tail_any (ops := [.ref a, .ref s4.heap.objs.size]) ht.isList.typeIs (PySem.slot_list_getitem.lookup) ?_ (by with_unfolding_all rfl)
    refine wpAny_getItem_list_slice ht.isList (Heap.IsSliceOf.new _ vl vu vs) pl pu ps (by decide) ?_ (by rw [List.size_toArray]; omega)
    rw [PySem.W.krv_pick]
    exact ⟨.ref _, _, I5.laid (t' := s4.toks) (o := .lst xs.reverse) (fun b ob q => Heap.get?_push_of_some _ q) (Nat.le_refl _) ⟨by rw [List.length_reverse]; exact hz, _, 0, r.reverse, Heap.get?_push_size _ rfl⟩, rfl, q _ (I5.hok.fresh (Nat.le_refl _))⟩
  · subst ex
    cases r1
    obtain ⟨its, r, ht, hz⟩ := I5.tuple hx
    have hlen := r.length
    cases pl
    cases pu
    show wpAny (model X.prog X.w) X.A (PyProof.Rows.subscriptTail e (.Slice none none (some (.UnaryOp .USub (.Constant (.int 1) k p1) p2)) p3) (.ref a) (.ref s4.heap.objs.size)) (EP X pins σ Q) X.xe _
    refine PyProof.Rows.tail_any (ops := [.ref a, .ref s4.heap.objs.size]) ht.typeIs (PyProof.Rows.slot_tuple_getitem.lookup) ?_ (by with_unfolding_all rfl)
    refine turned_tuple ht (Heap.IsSliceOf.new _ .none .none vs) ps ?_ (by rw [List.size_toArray]; omega)
    exact ⟨.ref _, _, I5.laid (t' := s4.toks) (o := .tup xs.reverse) (fun b ob q => Heap.get?_push_of_some _ q) (Nat.le_refl _) ⟨by rw [List.length_reverse]; exact hz, _, r.reverse, PyProof.Rows.IsTup.new _ _⟩, rfl, q _ (I5.hok.fresh (Nat.le_refl _))⟩
end
section
variable {K : PySem.W.Frag}
theorem RpAll.turn {H : Hp} : ∀ {xs : List V} {ds : List D}, RpAll K H xs ds → RpAll K H xs.reverse ds.reverse
  | _, _, .nil => .nil
  | _, _, .cons h r => by
    rw [List.reverse_cons, List.reverse_cons]
    exact (RpAll.turn r).append (.cons h .nil)
theorem r_rev : R1ok K revD (rTurn K) := by
  intro v H Ps d x b Q dom h1 hx q
  cases d with
  | list xs =>
    obtain ⟨a, vs, rfl, e1, r, z⟩ := h1.list
    cases hx
    exact .inl ⟨a, vs, rfl, SqL.of e1, fun l hl => q _ _ (same_upd hl) (new_lst dom hl r.turn (by simpa using z))⟩
  | tuple xs =>
    obtain ⟨a, vs, rfl, e1, r, z⟩ := h1.tuple
    cases hx
    exact .inr ⟨a, vs, rfl, e1, fun l hl => q _ _ (same_upd hl) (new_tup dom hl r.turn (by simpa using z))⟩
  | _ => cases hx
end
end Tq

/-! Tq, part U: a set made of a list of texts; how many it holds. -/
namespace Tq
open PySem L2 Res
def addU (acc : List Str) (x : Str) : List Str := if acc.any (· == x) then acc else acc ++ [x]
theorem unlike_eq (xs : List Str) : unlike xs = xs.foldl addU [] := rfl
theorem unlike_snoc (xs : List Str) (x : Str) : unlike (xs ++ [x]) = addU (unlike xs) x := by
  rw [unlike_eq, unlike_eq, List.foldl_append]; rfl
theorem addU_len (acc : List Str) (x : Str) : (addU acc x).length ≤ acc.length + 1 := by
  unfold addU
  split
  · omega
  · simp
theorem unlike_len : ∀ xs : List Str, (unlike xs).length ≤ xs.length := fun xs => by
  have h : ∀ (ys acc : List Str), (ys.foldl addU acc).length ≤ acc.length + ys.length := fun ys => by
    induction ys with
    | nil => intro acc; exact Nat.le_refl _
    | cons y ys ih =>
      intro acc
      rw [List.foldl_cons, List.length_cons]
      have := ih (addU acc y)
      have := addU_len acc y
      omega
  have := h xs []
  rw [unlike_eq]; simpa using this
theorem addU_has (acc : List Str) (x k : Str) : (addU acc x).any (· == k) = (acc.any (· == k) || decide (k = x)) := by
  unfold addU
  by_cases h : acc.any (· == x) = true
  · rw [if_pos h]
    by_cases e : k = x
    · rw [e, h]; rfl
    · rw [decide_eq_false e, Bool.or_false]
  · rw [if_neg h, List.any_append]
    congr 1
    by_cases e : k = x
    · rw [e]; simp
    · rw [decide_eq_false e]
      have : (x == k) = false := beq_eq_false_iff_ne.mpr fun z => e z.symm
      simp [this]
theorem addU_many (acc : List Str) (x : Str) : (addU acc x).length = if acc.any (· == x) then acc.length else acc.length + 1 := by
  unfold addU; split <;> simp
abbrev set0 (led : Bool) : Obj := { cls := .type "set", dict := none, data := .set #[] 0 (.fresh 0 0 led) }
abbrev Texts (prog : Program) (w : World) (h : Heap) (a : Addr) (xs : List Str) : Prop := h.SetOf (PySem.strKind prog w) a (fun z => (unlike xs).any (· == z)) (unlike xs).length
section
variable {prog : Program} {w : World} {A : Around} {R : Result → Shared → Prop} {I : Addr} {fp wr : List Addr} {G : Array GenState → Array GenState → Prop} {n : Nat} {P : Nat → Value → Prop} {At : Nat → Shared → Prop}
theorem grow (W : WalksS prog w A.in1 I fp wr G n P At) (a : Addr) (off : a ∉ fp) (xs : List Str) (len : xs.length = n) (few : n ≤ 1000) (val : ∀ i v, P i v → ∃ t, v = .str (xs.getD i Str.empty) t) :
    ∀ (m i : Nat) (s : Shared), n - i = m → i ≤ n → At i s → Texts prog w s.heap a (xs.take i) → (∀ s', Moved (a :: wr) G s s' → Texts prog w s'.heap a xs → R (.ok (.ret .none)) s') →
      codeAny (model prog w) A (.builtin "set.update.loop" ⟨[.ref a, .ref I], []⟩) R s := by
  have offw : a ∉ wr := fun z => off (W.sub _ z)
  have more : ∀ b ∈ wr, b ∈ a :: wr := fun b z => List.mem_cons_of_mem _ z
  intro m
  induction m with
  | zero =>
    intro i s em le at_ zs fin
    have ei : i = n := by omega
    subst ei
    refine codeAny_builtin PyProof.Rows.F.entry_set_update_loop ?_
    rw [Around.under_plainId PyProof.Rows.F.plain_set_update_loop _]
    show wpAny _ A.in1 (pyNext (.ref I) >>= _) _ _ s
    refine wpAny_bind (W.done s _ _ at_ fun s1 mv => wpAny_pure (fin s1 (mv.mono more) ?_))
    rw [List.take_of_length_le (by omega)] at zs
    obtain ⟨o, es, ep, t, ho, q⟩ := zs
    exact ⟨o, es, ep, t, mv.heap a _ offw ho, q⟩
  | succ m ih =>
    intro i s em le at_ zs fin
    have lt : i < n := by omega
    refine codeAny_builtin PyProof.Rows.F.entry_set_update_loop ?_
    rw [Around.under_plainId PyProof.Rows.F.plain_set_update_loop _]
    show wpAny _ A.in1 (pyNext (.ref I) >>= _) _ _ s
    refine wpAny_bind (W.item i s _ _ lt at_ fun v s1 pv at1 mv => ?_)
    obtain ⟨t, rfl⟩ := val i v pv
    have zs1 : Texts prog w s1.heap a (xs.take i) := by
      obtain ⟨o, es, ep, tb, ho, q⟩ := zs
      exact ⟨o, es, ep, tb, mv.heap a _ offw ho, q⟩
    show wpAny _ A.in1 (holding [Value.str (xs.getD i Str.empty) t] (setAdd a (.str (xs.getD i Str.empty) t)) >>= _) _ _ s1
    refine wpAny_bind (wpAny_holding ?_)
    unfold setAdd
    refine wpAny_holding (wpAny_bind ((PySem.strKind prog w).pyHash (k := xs.getD i Str.empty) (strKind_is _ _ _ _) ?_))
    have room : (unlike (xs.take i)).length + 1 < scanBound := by
      have := unlike_len (xs.take i)
      rw [List.length_take] at this
      unfold scanBound; omega
    have step : xs.take (i + 1) = xs.take i ++ [xs.getD i Str.empty] := by
      have hl : i < xs.length := by omega
      rw [List.take_add_one, List.getD_eq_getElem?_getD, List.getElem?_eq_getElem hl]; rfl
    refine wpAny_setAddHashed_of (knd := PySem.strKind prog w) (s := { s1 with toks := s1.toks + 1 }) (strKind_is _ _ _ _) rfl zs1 room fun h2 sb zs2 => ?_
    have zs3 : Texts prog w h2 a (xs.take (i + 1)) := by
      unfold Texts
      rw [step, unlike_snoc]
      exact PyProof.Rows.SetOf_congr zs2 (fun z => (addU_has _ _ z).symm) (addU_many _ _).symm
    have keep : ∀ b o, b ≠ a → s1.heap.get? b = some o → h2.get? b = some o := fun b o ne e => (sb.2 b ne).trans e
    refine wpAny_pure ⟨plainId_quiet PyProof.Rows.F.plain_set_update_loop _, ih (i + 1) _ (by omega) lt (W.frame _ s1 _ _ at1 (Nat.le_succ _) fun b hb o e => keep b o (fun z => off (z ▸ hb)) e) zs3 fun s2 mv2 zs4 => ?_⟩
    exact fin s2 (Moved.trans W.gtrans ((mv.mono more).then_heap (Nat.le_succ _) fun b o hb e => keep b o (fun z => hb (z ▸ List.mem_cons_self)) e) mv2) zs4
end
section
variable {prog : Program} {w : World} {A : Around} {E : Value → Shared → Prop} {s : Shared}
theorem set_texts {T : String} {l : Addr} {vs : Array Value} {xs : List Str} {Q : Value → Shared → Prop} {itO : Obj} {Hs : Heap → Prop} {St : Addr → Nat → Heap → Prop} (nh : A.handled = none) (src : ∃ o n, s.heap.get? l = some o ∧ o.cls = .type T ∧ o.data = .seq vs n) (hs : Hs s.heap) (B : Begins (.ref l) itO Hs)
    (W : ∀ (A' : Around), A'.handled = none → ∀ I, l ≠ I → Walks prog w A' I [I, l] [I] vs.size (fun i v => vs[i]? = some v) (St I)) (st0 : ∀ I h, h.get? I = some itO → Hs h → St I 0 h)
    (k1 : isSubtype (.type T) (.type "set") = pure false) (k2 : isSubtype (.type T) (.type "frozenset") = pure false) (k3 : (Value.type T == Value.type "dict") = false) (txt : PyProof.Rows.StrsAre vs.toList xs) (few : xs.length ≤ 1000)
    (fin : ∀ (h2 : Heap) (tk : Nat), Texts prog w h2 s.heap.objs.size xs → (∀ b o, b < s.heap.objs.size → s.heap.get? b = some o → h2.get? b = some o) → Q (.ref s.heap.objs.size) { s with heap := h2, toks := tk }) :
    wpAny (model prog w) A (call (.type "set") [.ref l]) Q E s := by
  obtain ⟨c, tl, m0⟩ := PySem.F.called_set.mro
  have m1 := PySem.F.called_set.made
  have m2 := PySem.F.called_set.sub
  refine wpAny_call (codeAny_of_tree (show wpAny _ _ (callAny (.type "set") _) _ _ _ from ?_))
  refine wpAny_pure ⟨Code.quiet_builtin _ (by decide +kernel), codeAny_builtin PySem.F.entry_type_call ?_⟩
  rw [Around.under_plain (weight_type_call_type "set" [.ref l] []) rfl]
  have m3 := PySem.F.called_set.notType
  have m4 := PySem.F.called_set.canCreate
  have m5 := PySem.F.typeCall_set_1 (.ref l)
  repeat (any_goals (first | assumption | wp_step))
  refine codeAny_mono (code_set_new_1 (.ref l) (E := E) (Q₁ := fun u s1 => ∃ led : Bool, u = .ref s.heap.objs.size ∧ s1 = { s with heap := s.heap.push (set0 led) }) fun led => ⟨led, rfl, rfl⟩) fun r s1 hr => ?_
  cases r with
  | error e => exact hr
  | ok fl =>
    cases fl with
    | ret u =>
      obtain ⟨led, rfl, rfl⟩ := hr
      have g0 : (s.heap.push (set0 led)).get? s.heap.objs.size = some (set0 led) := Heap.get?_push_size _ rfl
      have ty : Shared.TypeIs { s with heap := s.heap.push (set0 led) } (.ref s.heap.objs.size) "set" := ⟨_, g0, rfl⟩
      have m6 := PySem.F.called_set.init.lookup
      have m7 := PySem.F.called_set.init.bind (.ref s.heap.objs.size)
      repeat (any_goals (first | assumption | wp_step))
      refine codeAny_mono (codeAny_call_builtin (R := wants (fun r s2 => r = .none ∧ ∃ h2 tk, s2 = { s with heap := h2, toks := tk } ∧ Texts prog w h2 s.heap.objs.size xs ∧
          ∀ b o, b < s.heap.objs.size → s.heap.get? b = some o → h2.get? b = some o) E) PySem.F.called_set.init.plain PySem.F.entry_set_init (check_set_init_1 ty ?_)) fun r2 s2 hr2 => ?_
      · obtain ⟨⟨oc, od, ot, os⟩, nl, ho, hc, hd⟩ := src
        simp only at hc hd
        subst hc hd
        have ho1 : (s.heap.push (set0 led)).get? l = some { cls := .type T, dict := od, data := .seq vs nl, slots := os } := Heap.get?_push_of_some _ ho
        have hs1 : Hs (s.heap.push (set0 led)) := B.keeps _ _ hs fun b o e => Heap.get?_push_of_some _ e
        unfold Builtin.«set.__init__» noKeywords Builtin.Frozenset.updateFrom
        generalize gi : pyIter = gI
        wp_walk
        subst gi
        refine B.iter _ _ _ _ _ _ hs1 (wpAny_bind (wpAny_runValue ?_))
        have lt : l < s.heap.objs.size := Heap.lt_size ho
        have nh3 : A.in1.in1.in1.handled = none := by simp [nh]
        have sz1 : (s.heap.push (set0 led)).objs.size = s.heap.objs.size + 1 := Heap.size_push ..
        have ne : l ≠ (s.heap.push (set0 led)).objs.size := fun z => Nat.lt_irrefl _ (Nat.lt_trans (Nat.lt_succ_self _) (show s.heap.objs.size + 1 < s.heap.objs.size from (sz1.symm.trans z.symm) ▸ lt))
        have off : s.heap.objs.size ∉ [(s.heap.push (set0 led)).objs.size, l] := fun z => by
          rcases List.mem_cons.mp z with z | z
          · rw [sz1] at z; exact absurd z (Nat.ne_of_lt (Nat.lt_succ_self _))
          · rw [List.mem_singleton] at z; exact Nat.lt_irrefl _ (z ▸ lt)
        have sz : xs.length = vs.size := by rw [← PyProof.Rows.StrsAre.len_eq txt, Array.length_toList]
        refine grow ((W _ nh3 _ ne).toS) s.heap.objs.size off xs sz (by omega) (fun i v hv => SS.strs_at txt i v (by rw [Array.getElem?_toList]; exact hv)) (vs.size - 0) 0 _ (by omega) (Nat.zero_le _)
          (st0 _ _ (Heap.get?_push_size _ B.free) (B.keeps _ _ hs1 fun b o e => Heap.get?_push_of_some _ e)) ?_ fun s3 mv zs => ?_
        · have g1 : ((s.heap.push (set0 led)).push itO).get? s.heap.objs.size = some (set0 led) := Heap.get?_push_of_some _ g0
          exact PyProof.Rows.SetOf_congr ((PyProof.Rows.setObjOf_fresh (knd := PySem.strKind prog w) led).setOf g1 (by unfold scanBound; omega)) (fun _ => rfl) rfl
        · obtain ⟨h3, g3, d3, tk3, os3⟩ := s3
          have eg : g3 = s.gens := mv.gens
          have ed : d3 = s.drawn := mv.drawn
          have eo : os3 = s.os := mv.os
          subst eg ed eo
          show wpAny _ _ _ _ _ _
          refine wpAny_pure (show wpAny _ _ (ret Value.none) _ _ _ from wpAny_pure ⟨rfl, h3, tk3, rfl, zs, fun b o hb e => ?_⟩)
          refine mv.heap b o ?_ (Heap.get?_push_of_some _ (Heap.get?_push_of_some _ e))
          intro z
          rcases List.mem_cons.mp z with z | z
          · exact Nat.lt_irrefl _ (z ▸ hb)
          · rcases List.mem_cons.mp z with z | z
            · rw [sz1] at z; exact Nat.lt_irrefl _ (Nat.lt_trans (Nat.lt_succ_self _) (z ▸ hb))
            · exact absurd z (by simp)
      · cases r2 with
        | error e => exact hr2
        | ok fl2 =>
          cases fl2 with
          | ret r =>
            obtain ⟨rfl, h2, tk, rfl, zs, kp⟩ := hr2
            repeat (any_goals (first | assumption | wp_step))
            exact fin _ _ zs kp
          | _ => exact hr2.elim
    | _ => exact hr.elim
end
section
variable {X : Cx}
def rHow (K : PySem.W.Frag) : V → Hp → VK → Prop := fun x H Q => ∃ l, ∃ xs : List Str, x = .ref l ∧ (SqL K H l (xs.map V.str) ∨ SqT K H l (xs.map V.str)) ∧ xs.length ≤ 1000 ∧ Q (.int (unlike xs).length) H
theorem pe_how {a : Expr} {ta : TE} {p p2 q pos : Pos} (hc : X.calm = true) (g1 : Gl X "len") (m1 : X.mg "len" = none) (g2 : Gl X "set") (m2 : X.mg "set" = none) (ha : PE X a ta) (na : starEach [a] X.env = (false, eval a X.env) :: starEach [] X.env) :
    PE X (.Call (.Name "len" p) [.Call (.Name "set" p2) [a] [] q] [] pos) (tUn (rHow X.K) ta) := by
  refine ⟨fun pins s σ H Q I h => ?_⟩
  refine PyProof.Rows.Call_ (ld_blt I g1 m1 PySem.boot_len (PyProof.Rows.callWith_builtin1 (PyProof.Rows.args_cons ?_ rfl) rfl rfl))
  refine PyProof.Rows.Call_ (ld_blt I g2 m2 PyProof.Rows.boot_set (PyProof.Rows.callWith_type1 (PyProof.Rows.args_cons (thn (ha.run pins s σ H _ I h) fun v s1 ⟨x, H1, I1, r1, q1⟩ => PyProof.Rows.args_nil ?_) na) na rfl))
  obtain ⟨l, xs, rfl, sq, few, q1⟩ := q1
  cases r1
  have fin : ∀ (h2 : Heap) (tk : Nat), Texts X.prog X.w h2 s1.heap.objs.size xs → (∀ b o, b < s1.heap.objs.size → s1.heap.get? b = some o → h2.get? b = some o) → wpAny (model X.prog X.w) X.A (call (.builtin "len") [.ref s1.heap.objs.size]) (fun v s' => ∃ x H', Inv X pins σ H' s' ∧ RelV x v ∧ Q x H') X.xe { s1 with heap := h2, toks := tk } := fun h2 tk zs kp => by
    obtain ⟨o, es, ep, t, ho, hex, hd, _, _, _, hf, hn⟩ := zs
    have I2 : Inv X pins σ H1 { s1 with heap := h2, toks := tk } := I1.kept fun b o e => kp b o (Heap.lt_size e) e
    have := unlike_len xs
    exact call_len_set ho hex hd hf (by rw [hn]; omega) ⟨.int (unlike xs).length, H1, I2.tok _, ⟨_, by rw [hn]⟩, q1⟩
  rcases sq with sq | sq
  · obtain ⟨its, r, pl, hz⟩ := I1.list sq
    refine set_texts (T := "list") (I1.ok.hd hc) (by obtain ⟨o, n, h1, h2, h3, h4⟩ := pl; exact ⟨o, n, h1, h2, h4⟩) pl.isList (begins_list l its.toArray) (fun A' hA I hI => Walks.list hA I l hI its.toArray) (fun I h e q => ⟨⟨_, e, rfl, rfl⟩, q⟩) PySem.F.sub_list_set PySem.F.sub_list_frozenset (by decide) (by simpa using strsAre_of r) few fun h2 tk zs kp => PyProof.Rows.args_nil (fin h2 tk zs kp)
  · obtain ⟨its, r, pl, hz⟩ := I1.tuple sq
    refine set_texts (T := "tuple") (I1.ok.hd hc) (by obtain ⟨o, h1, h2, n, h4⟩ := pl; exact ⟨o, n, h1, h2, h4⟩) pl (begins_tuple l its.toArray) (fun A' hA I hI => Walks.tuple hA I l hI its.toArray) (fun I h e q => ⟨⟨_, e, rfl, rfl⟩, q⟩) PySem.F.sub_tuple_set PySem.F.sub_tuple_frozenset (by decide) (by simpa using strsAre_of r) few fun h2 tk zs kp => PyProof.Rows.args_nil (fin h2 tk zs kp)
end
section
variable {K : PySem.W.Frag}
theorem lenSet_ok {ds : List D} {x : D} (h : lenSetL ds = .ok x) : ∃ xs, strsD ds = some xs ∧ xs.length ≤ 1000 ∧ x = .int (unlike xs).length := by
  unfold lenSetL at h
  cases hs : strsD ds with
  | none => rw [hs] at h; cases h
  | some xs =>
    rw [hs] at h
    have h2 : (if decide (xs.length ≤ 1000) = true then Res.ok (PyData.int (unlike xs).length) else .bad) = .ok x := h
    by_cases hl : xs.length ≤ 1000
    · rw [if_pos (decide_eq_true hl)] at h2; cases h2
      exact ⟨xs, rfl, hl, rfl⟩
    · rw [if_neg (by simpa using hl)] at h2; cases h2
theorem r_how : R1ok K lenSetD (rHow K) := by
  intro v H Ps d x b Q dom h1 hx q
  cases d with
  | list ds =>
    obtain ⟨a, vs, rfl, e1, r, z⟩ := h1.list
    obtain ⟨xs, hs, hl, rfl⟩ := lenSet_ok (show lenSetL ds = .ok x from hx)
    exact ⟨a, xs, rfl, .inl (SqL.of (by rw [← (strs_of r hs).1]; exact e1)), hl, q _ _ (Same.refl _) (.int _)⟩
  | tuple ds =>
    obtain ⟨a, vs, rfl, e1, r, z⟩ := h1.tuple
    obtain ⟨xs, hs, hl, rfl⟩ := lenSet_ok (show lenSetL ds = .ok x from hx)
    exact ⟨a, xs, rfl, .inr (by rw [← (strs_of r hs).1]; exact e1), hl, q _ _ (Same.refl _) (.int _)⟩
  | _ => cases hx
end
end Tq

/-! Tq, part F: the text held against the small language; the context. -/
namespace Tq
open PySem L2 Res

/-! ### the same datum -/
mutual
def sameD : D → D → Bool
  | .none, .none => true
  | .bool a, .bool b => a == b
  | .int i, .int j => decide (i = j)
  | .str x, .str y => decide (x = y)
  | .list xs, .list ys => sameDs xs ys
  | .tuple xs, .tuple ys => sameDs xs ys
  | .dict xs, .dict ys => sameKV xs ys
  | _, _ => false
def sameDs : List D → List D → Bool
  | [], [] => true
  | x :: xs, y :: ys => sameD x y && sameDs xs ys
  | _, _ => false
def sameKV : List (D × D) → List (D × D) → Bool
  | [], [] => true
  | (a, b) :: xs, (c, d) :: ys => sameD a c && sameD b d && sameKV xs ys
  | _, _ => false
end
mutual
theorem sameD_eq : ∀ (a b : D), sameD a b = true → a = b
  | .none, b, h => by cases b <;> first | rfl | (simp [sameD] at h)
  | .bool a, b, h => by cases b <;> simp [sameD] at h; rw [h]
  | .int a, b, h => by cases b <;> simp [sameD] at h; rw [h]
  | .str a, b, h => by cases b <;> simp [sameD] at h; rw [h]
  | .list xs, b, h => by cases b <;> simp [sameD] at h; rw [sameDs_eq xs _ h]
  | .tuple xs, b, h => by cases b <;> simp [sameD] at h; rw [sameDs_eq xs _ h]
  | .dict xs, b, h => by cases b <;> simp [sameD] at h; rw [sameKV_eq xs _ h]
theorem sameDs_eq : ∀ (a b : List D), sameDs a b = true → a = b
  | [], [], _ => rfl
  | [], _ :: _, h => by simp [sameDs] at h
  | _ :: _, [], h => by simp [sameDs] at h
  | x :: xs, y :: ys, h => by
    simp only [sameDs, Bool.and_eq_true] at h
    rw [sameD_eq x y h.1, sameDs_eq xs ys h.2]
theorem sameKV_eq : ∀ (a b : List (D × D)), sameKV a b = true → a = b
  | [], [], _ => rfl
  | [], _ :: _, h => by simp [sameKV] at h
  | _ :: _, [], h => by simp [sameKV] at h
  | (a, b) :: xs, (c, d) :: ys, h => by
    simp only [sameKV, Bool.and_eq_true] at h
    rw [sameD_eq a c h.1.1, sameD_eq b d h.1.2, sameKV_eq xs ys h.2]
end

/-! ### the text -/
structure Sx where
  N : List Str
  sc : Scope
  M : List Nat
  fnm : Nat → Option (Str × Nat)
  gl : List (Str × D)
  fnc : Str → Bool
def noStar : Expr → Bool
  | .Starred .. => false
  | _ => true
def noSlice : Expr → Bool
  | .Slice .. => false
  | _ => true
def noCall0 : Expr → Bool
  | .Call (.Name _ _) [] [] _ => false
  | _ => true
def noSet : Expr → Bool
  | .Set .. => false
  | _ => true
def plainTest : Expr → Bool
  | .UnaryOp .Not _ _ => false
  | .BoolOp .. => false
  | .IfExp .. => false
  | .Compare .. => false
  | _ => true
def noComp : Expr → Bool
  | .ListComp .. => false
  | .SetComp .. => false
  | .DictComp .. => false
  | _ => true
def visK : Option NameKind → Bool
  | some .local => true
  | some .cell => true
  | some .free => true
  | _ => false
def glK : Option NameKind → Bool
  | some .globalImplicit => true
  | _ => false
def locK (c : Bool) : Option NameKind → Bool
  | some .local => true
  | some .cell => c
  | _ => false
def visB (S : Sx) (i : Nat) (x : Str) : Bool := decide (S.N[i]? = some x) && visK (S.sc.names.lookup x) && !(x == ("__debug__" : Str)) && !(x == ("__classdict__" : Str))
def locB (S : Sx) (i : Nat) (x : Str) : Bool := decide (S.N[i]? = some x) && locK (S.fnc x) (S.sc.names.lookup x)
def glB (S : Sx) (x : Str) : Bool := glK (S.sc.names.lookup x)
def freeNames : List Str := (["len", "tuple", "list", "any", "all", "int", "isinstance", "range", "bool", "str", "enumerate", "zip", "reversed", "set", "sorted", "dict", "sum", "min", "max"] : List String).map Str.ofString

def bcall (S : Sx) (x : Str) : Expr → Option Expr
  | .Call (.Name n _) [a] [] _ => if n = x ∧ glB S x = true ∧ noStar a = true then some a else none
  | _ => none
def cmpOf : Op2 → Option CmpOp
  | .eq => some .Eq
  | .ne => some .NotEq
  | .lt => some .Lt
  | .le => some .LtE
  | .gt => some .Gt
  | .ge => some .GtE
  | .is => some .Is
  | .isnot => some .IsNot
  | .in_ => some .In
  | .notin => some .NotIn
  | _ => none
def binOf : Op2 → Option Operator
  | .add => some .Add
  | .sub => some .Sub
  | .mul => some .Mult
  | .mod => some .Mod
  | .pow => some .Pow
  | _ => none
def unOf : Op1 → Option UnaryOp
  | .neg => some .USub
  | _ => none
def biOf : Op1 → Option Str
  | .len => some "len"
  | .any => some "any"
  | .all => some "all"
  | _ => none
def tyOf : Op1 → Option Str
  | .tuple => some "tuple"
  | .list => some "list"
  | .int => some "int"
  | _ => none
def howE (S : Sx) : Expr → Option Expr
  | .Call (.Name n _) [.Call (.Name m _) [a] [] _] [] _ => if n = ("len" : Str) ∧ m = ("set" : Str) ∧ glB S "len" = true ∧ glB S "set" = true ∧ noStar a = true then some a else none
  | _ => none
def revE : Expr → Option Expr
  | .Subscript a (.Slice none none (some (.UnaryOp u (.Constant (.int 1) _ _) _)) _) _ => if (u == .USub) = true then some a else none
  | _ => none
def methE0 (x : Str) : Expr → Option Expr
  | .Call (.Attribute a n p) [] [] q => if n = x ∧ (p.endLine == q.line) = true ∧ noCall0 a = true then some a else none
  | _ => none
def unE (u : UnaryOp) : Expr → Option Expr
  | .UnaryOp v a _ => if (v == u) = true then some a else none
  | _ => none
/-- e is this operation over x -/
def sh1 (S : Sx) (op : Op1) (e : Expr) : Option Expr := match op with
  | .neg => unE .USub e
  | .not => unE .Not e
  | .len => bcall S "len" e
  | .any => bcall S "any" e
  | .all => bcall S "all" e
  | .tuple => bcall S "tuple" e
  | .list => bcall S "list" e
  | .int => bcall S "int" e
  | .upper => methE0 "upper" e
  | .lenSet => howE S e
  | .rev => revE e
  | _ => none
def cmpE (op : Op2) : Expr → Option (Expr × Expr)
  | .Compare a [c] [b] _ => if cmpOf op = some c ∧ noSet b = true then some (a, b) else none
  | _ => none
def binE (op : Op2) : Expr → Option (Expr × Expr)
  | .BinOp a c b _ => if binOf op = some c then some (a, b) else none
  | _ => none
def ixE : Expr → Option (Expr × Expr)
  | .Subscript a b _ => if noSlice b = true then some (a, b) else none
  | _ => none
def methE1 (x : Str) : Expr → Option (Expr × Expr)
  | .Call (.Attribute a n p) [b] [] q => if n = x ∧ (p.endLine == q.line) = true ∧ noCall0 a = true ∧ noStar b = true then some (a, b) else none
  | _ => none
def sh2 (S : Sx) (op : Op2) (e : Expr) : Option (Expr × Expr) := match op with
  | .idx => ixE e
  | .join => methE1 "join" e
  | .eq | .ne | .lt | .le | .gt | .ge | .is | .isnot | .in_ | .notin => cmpE op e
  | .add | .sub | .mul | .mod | .pow => binE op e
  | _ => none
def tyName : Ty → Option Str
  | .int => some "int"
  | .str => some "str"
  | .bool => some "bool"
  | .tuple => some "tuple"
  | .list => some "list"
  | .intstr => none
def isiE (S : Sx) (t : Ty) : Expr → Option Expr
  | .Call (.Name n _) [a, .Name m _] [] _ => if n = ("isinstance" : Str) ∧ tyName t = some m ∧ glB S "isinstance" = true ∧ glB S m = true ∧ noStar a = true then some a else none
  | _ => none
def isi2E (S : Sx) : Expr → Option Expr
  | .Call (.Name n _) [a, .Tuple [.Name x _, .Name y _] _ _] [] _ => if n = ("isinstance" : Str) ∧ x = ("int" : Str) ∧ y = ("str" : Str) ∧ glB S "isinstance" = true ∧ glB S "int" = true ∧ glB S "str" = true ∧ noStar a = true then some a else none
  | _ => none
def isiAll (S : Sx) (t : Ty) (e : Expr) : Option Expr := match t with
  | .intstr => isi2E S e
  | t => isiE S t e
def slE : Expr → Option (Expr × Option Expr × Option Expr)
  | .Subscript a (.Slice lo hi none _) _ => some (a, lo, hi)
  | _ => none
def get2E : Expr → Option (Expr × Expr × Expr)
  | .Call (.Attribute a n p) [b, c] [] q => if n = ("get" : Str) ∧ (p.endLine == q.line) = true ∧ noCall0 a = true ∧ noStar b = true ∧ noStar c = true then some (a, b, c) else none
  | _ => none
def smallStr (x : Str) : Bool := decide (x.length ≤ 1000) && PyData.strOk x
def isVar : IE → Bool
  | .var _ => true
  | _ => false
def isNon : IE → Bool
  | .non => true
  | _ => false
/-- the keys of a display -/
def keyE (k : Str) : Option Expr → Bool
  | some (.Constant (.str x) _ _) => decide (k = x) && smallStr k
  | _ => false
def andE (op : BoolOp) : Expr → Option (Expr × Expr)
  | .BoolOp o (a :: b :: rest) p => if (o == op) = true then some (a, match rest with | [] => b | c :: r => .BoolOp o (b :: c :: r) p) else none
  | _ => none
mutual
def chkT (S : Sx) : Tg → Expr → Bool
  | .nm i, .Name x _ => locB S i x && !(S.M.contains i)
  | .tu ts, .Tuple es _ _ => chkTs S ts es
  | _, _ => false
def chkTs (S : Sx) : Tgs → List Expr → Bool
  | .nil, [] => true
  | .cons t ts, e :: es => noStar e && chkT S t e && chkTs S ts es
  | _, _ => false
end
mutual
def Tg.slots : Tg → List Nat
  | .nm i => [i]
  | .tu ts => Tgs.slots ts
def Tgs.slots : Tgs → List Nat
  | .nil => []
  | .cons t ts => Tg.slots t ++ Tgs.slots ts
end
/-- the block of a comprehension -/
def blkS (S : Sx) (scope : Scope) : Sx := { S with sc := relS scope S.sc, fnc := fun x => scope.names.lookup x == some .cell }
def ownOf (S : Sx) (t : Tg) : List (Str × Nat) := t.slots.map fun i => (S.N.getD i ("" : Str), i)
def lv (M : List Nat) : IE → Bool
  | .var i => M.contains i
  | _ => false
def rng1E (S : Sx) : Expr → Option Expr := bcall S "range"
def rng2E (S : Sx) : Expr → Option (Expr × Expr)
  | .Call (.Name n _) [a, b] [] _ => if n = ("range" : Str) ∧ glB S "range" = true ∧ noStar a = true ∧ noStar b = true then some (a, b) else none
  | _ => none
def bcall2 (S : Sx) (f : Str) : Expr → Option (Expr × Expr)
  | .Call (.Name n _) [a, b] [] _ => if n = f ∧ glB S f = true ∧ noStar a = true ∧ noStar b = true then some (a, b) else none
  | _ => none
def isTupE : Expr → Bool
  | .Tuple _ _ _ => true
  | _ => false
mutual
def chkE (S : Sx) : IE → Expr → Bool
  | .bad, _ => true
  | .var i, e => match e with | .Name x _ => visB S i x | _ => false
  | .non, e => match e with | .Constant .none _ _ => true | _ => false
  | .bl b, e => match e with | .Constant (.bool c) _ _ => b == c | _ => false
  | .int i, e => match e with | .Constant (.int j) _ _ => decide (i = j) | _ => false
  | .str x, e => match e with | .Constant (.str y) _ _ => decide (x = y) && smallStr x | _ => false
  | .glob x d, e => match e with | .Name y _ => decide (x = y) && glB S x && S.gl.any (fun p => decide (p.1 = x) && sameD p.2 d) && !(x == ("__debug__" : Str)) | _ => false
  | .tup es, e => match e with | .Tuple xs _ _ => chkEs S es xs && decide (xs.length ≤ 1000) | _ => false
  | .lst es, e => match e with | .List xs _ => chkEs S es xs && decide (xs.length ≤ 1000) | _ => false
  | .dsp ks es, e => match e with | .Dict ks' vs _ => chkDs S ks es ks' vs && decide (ks.length ≤ 15) | _ => false
  | .o1 op a, e => match sh1 S op e with | some x => chkE S a x | none => false
  | .o2 op a b, e => match sh2 S op e with | some (x, y) => chkE S a x && chkE S b y | none => false
  | .o3 .sl a b c, e => match slE e with | some (x, y, z) => chkE S a x && (match y with | none => isNon b | some y' => chkE S b y') && (match z with | none => isNon c | some z' => chkE S c z') | none => false
  | .o3 .get a b c, e => match get2E e with | some (x, y, z) => chkE S a x && chkE S b y && chkE S c z && !(lv S.M c) | none => false
  | .o3 _ _ _ _, _ => false
  | .isi a t, e => match isiAll S t e with | some x => chkE S a x | none => false
  | .and_ a b, e => match andE .And e with | some (x, y) => chkE S a x && chkE S b y && !(lv S.M a) && !(lv S.M b) | none => false
  | .or_ a b, e => match andE .Or e with | some (x, y) => chkE S a x && chkE S b y && !(lv S.M a) && !(lv S.M b) | none => false
  | .ifE c a b, e => match e with | .IfExp x y z _ => chkB S c x && chkE S a y && chkE S b z && !(lv S.M a) && !(lv S.M b) | _ => false
  | .chain o p a b c, e => match e with
    | .Compare x [o', p'] [y, z] _ => decide (cmpOf o = some o') && decide (cmpOf p = some p') && noSet y && noSet z && chkE S a x && chkE S b y && chkE S c z
    | _ => false
  | .call f es, e => match e with
    | .Call (.Name n _) (x :: xs) [] _ => (match S.fnm f with | some (m, ar) => decide (m = n) && decide ((x :: xs).length = ar) && !(n == ("__debug__" : Str)) | none => false) && glB S n && chkEs S es (x :: xs)
    | _ => false
  | .comp t it elt, e => match e with
    | .ListComp x [⟨tg, i, [], 0⟩] scope _ => chkIT S it tg i && noSet i && blkC S.N S.sc scope (ownOf S t) && chkT (blkS S scope) t tg && chkE (blkS S scope) elt x && !(lv S.M elt) && decide (t.slots.Nodup) && t.slots.all (fun i => decide (i < S.N.length) && !(S.M.contains i))
    | _ => false
  | .compIf t it c elt, e => match e with
    | .ListComp x [⟨tg, i, [y], 0⟩] scope _ => chkIT S it tg i && noSet i && blkC S.N S.sc scope (ownOf S t) && chkT (blkS S scope) t tg && chkB (blkS S scope) c y && chkE (blkS S scope) elt x && !(lv S.M elt) && decide (t.slots.Nodup) && t.slots.all (fun i => decide (i < S.N.length) && !(S.M.contains i))
    | _ => false
  | .compK j a elt, e => match e with
    | .ListComp x [⟨tg, i, [], 0⟩] scope _ => isVar a && chkE S a i && !(lv S.M a) && noSet i && blkC S.N S.sc scope (ownOf S (.nm j)) && chkT (blkS S scope) (.nm j) tg && chkE (blkS S scope) elt x && !(lv S.M elt) && decide (j < S.N.length) && !(S.M.contains j)
    | _ => false
  | .compKIf j a c elt, e => match e with
    | .ListComp x [⟨tg, i, [y], 0⟩] scope _ => isVar a && chkE S a i && !(lv S.M a) && noSet i && blkC S.N S.sc scope (ownOf S (.nm j)) && chkT (blkS S scope) (.nm j) tg && chkB (blkS S scope) c y && chkE (blkS S scope) elt x && !(lv S.M elt) && decide (j < S.N.length) && !(S.M.contains j)
    | _ => false
/-- as a test -/
def chkB (S : Sx) : IE → Expr → Bool
  | .bad, _ => true
  | .and_ a b, e => match andE .And e with | some (x, y) => chkB S a x && chkB S b y | none => false
  | .or_ a b, e => match andE .Or e with | some (x, y) => chkB S a x && chkB S b y | none => false
  | .o1 .not a, e => match e with | .UnaryOp .Not x _ => chkB S a x | _ => false
  | .o2 op a b, e => match e with
    | .Compare x [c] [y] p => (match cmpE op (.Compare x [c] [y] p) with | some (x, y) => chkE S a x && chkE S b y | none => false)
    | e => plainTest e && (match sh2 S op e with | some (x, y) => chkE S a x && chkE S b y | none => false)
  | .chain o p a b c, e => match e with
    | .Compare x [o', p'] [y, z] _ => decide (cmpOf o = some o') && decide (cmpOf p = some p') && noSet y && noSet z && chkE S a x && chkE S b y && chkE S c z
    | _ => false
  | .var i, e => match e with | .Name x _ => visB S i x | _ => false
  | .isi a t, e => match isiAll S t e with | some x => chkE S a x | none => false
  | .call f es, e => match e with
    | .Call (.Name n _) (x :: xs) [] _ => (match S.fnm f with | some (m, ar) => decide (m = n) && decide ((x :: xs).length = ar) && !(n == ("__debug__" : Str)) | none => false) && glB S n && chkEs S es (x :: xs)
    | _ => false
  | .o3 .sl a b c, e => plainTest e && (match slE e with | some (x, y, z) => chkE S a x && (match y with | none => isNon b | some y' => chkE S b y') && (match z with | none => isNon c | some z' => chkE S c z') | none => false)
  | .o1 op a, e => plainTest e && (match sh1 S op e with | some x => chkE S a x | none => false)
  | _, _ => false
def chkEs (S : Sx) : IEs → List Expr → Bool
  | .nil, [] => true
  | .cons a as, e :: es => noStar e && chkE S a e && !(lv S.M a) && chkEs S as es
  | _, _ => false
/-- a display's pairs -/
def chkDs (S : Sx) : List Str → IEs → List (Option Expr) → List Expr → Bool
  | [], .nil, [], [] => true
  | k :: ks, .cons a as, y :: ys, e :: es => keyE k y && chkE S a e && !(lv S.M a) && chkDs S ks as ys es
  | _, _, _, _ => false
def chkIT (S : Sx) : IT → Expr → Expr → Bool
  | .seq a, _, e => chkE S a e && !(lv S.M a)
  | .rng1 a, _, e => match rng1E S e with | some x => chkE S a x | none => false
  | .rng2 a b, _, e => match rng2E S e with | some (x, y) => chkE S a x && chkE S b y | none => false
  | .enum a, tg, e => match bcall S "enumerate" e with | some x => isTupE tg && chkE S a x && !(lv S.M a) | none => false
  | .zip a b, tg, e => match bcall2 S "zip" e with | some (x, y) => isTupE tg && chkE S a x && chkE S b y && !(lv S.M a) && !(lv S.M b) | none => false
  | .rev _, _, _ => false
end
end Tq

/-! Tq, part G: what is known where a text runs; expressions. -/
namespace Tq
open PySem L2 Res

/-! ### slots and plain values -/
structure EnvR (K : PySem.W.Frag) (M : List Nat) (H : Hp) (Ps : List Addr) (σ : St) (env : En) : Prop where
  get : ∀ (i : Nat) (d : D), env[i]? = some (some d) → ∃ v, σ[i]? = some (some v) ∧ RL K H Ps (M.contains i) v d ∧ (M.contains i = true → Pv K H Ps v d)
  inj : ∀ (i j : Nat) (p : Addr) (d e : D), M.contains i = true → M.contains j = true → i ≠ j → env[i]? = some (some d) → env[j]? = some (some e) → σ[i]? = some (some (.ref p)) → σ[j]? = some (some (.ref p)) → False
  dom : ∀ q ∈ Ps, H q ≠ none
  len : σ.length = env.length
section
variable {K : PySem.W.Frag} {M : List Nat} {H H' : Hp} {Ps Ps' : List Addr} {σ : St} {env : En}
theorem EnvR.keep (r : EnvR K M H Ps σ env) (k : Keep Ps H Ps' H') : EnvR K M H' Ps' σ env where
  get := fun i d e => by
    obtain ⟨v, h1, h2, h3⟩ := r.get i d e
    exact ⟨v, h1, h2.keep k, fun z => (h3 z).keep k⟩
  inj := r.inj
  dom := k.dom
  len := r.len
theorem EnvR.same (r : EnvR K M H Ps σ env) (s : Same H H') : EnvR K M H' Ps σ env := r.keep (Keep.same r.dom s)
/-- a slot that is not hidden is set -/
theorem EnvR.set {i : Nat} {v : V} {d : D} (r : EnvR K M H Ps σ env) (hi : M.contains i = false) (h : Rp K (hide H Ps) v d) : EnvR K M H Ps (σ.set i (some v)) (env.set i (some d)) where
  get := fun j e he => by
    by_cases hj : i = j
    · subst hj
      by_cases hl : i < env.length
      · rw [List.getElem?_set_self hl] at he
        cases he
        exact ⟨v, List.getElem?_set_self (by rw [r.len]; exact hl), .of h, fun z => by rw [hi] at z; cases z⟩
      · rw [List.getElem?_eq_none (by simpa using hl)] at he; cases he
    · rw [List.getElem?_set_ne hj] at he ⊢
      exact r.get j e he
  inj := fun a b p d' e' ha hb hab h1 h2 h3 h4 => by
    have na : i ≠ a := fun z => by subst z; rw [hi] at ha; cases ha
    have nb : i ≠ b := fun z => by subst z; rw [hi] at hb; cases hb
    rw [List.getElem?_set_ne na] at h1 h3
    rw [List.getElem?_set_ne nb] at h2 h4
    exact r.inj a b p d' e' ha hb hab h1 h2 h3 h4
  dom := r.dom
  len := by simp [r.len]
end

/-! ### what a reading comes to -/
def EvD (K : PySem.W.Frag) (t : TE) (σ : St) (H : Hp) (Ps : List Addr) (b : Bool) (d : D) : Prop :=
  ∀ H0, Same H H0 → ∀ Q : VK, (∀ v H1, Same H0 H1 → RL K H1 Ps b v d → Q v H1) → t σ H0 Q
def EvB (t : TT) (σ : St) (H : Hp) (b : Bool) : Prop :=
  ∀ H0, Same H H0 → ∀ Q : Bool → Hp → Prop, (∀ H1, Same H0 H1 → Q b H1) → t σ H0 Q
def EvA (K : PySem.W.Frag) (t : TA) (σ : St) (H : Hp) (Ps : List Addr) (ds : List D) : Prop :=
  ∀ H0, Same H H0 → ∀ Q : List V → Hp → Prop, (∀ vs H1, Same H0 H1 → RpAll K (hide H1 Ps) vs ds → Q vs H1) → t σ H0 Q
section
variable {K : PySem.W.Frag} {σ : St} {H H' : Hp} {Ps : List Addr} {b c : Bool} {d e x : D} {ta tb : TE} {dom : ∀ q ∈ Ps, H q ≠ none}
theorem dom_same (dom : ∀ q ∈ Ps, H q ≠ none) (s : Same H H') : ∀ q ∈ Ps, H' q ≠ none := fun q hq z => dom q hq (s.free z)
theorem EvD.mono {t : TE} (h : EvD K t σ H Ps b d) (s : Same H H') : EvD K t σ H' Ps b d := fun H0 s0 Q q => h H0 (s.trans s0) Q q
theorem RL.same {v : V} (h : RL K H Ps b v d) (dom : ∀ q ∈ Ps, H q ≠ none) (s : Same H H') : RL K H' Ps b v d := h.keep (Keep.same dom s)
theorem ev1 {f : D → Res D} {r : V → Hp → VK → Prop} (dom : ∀ q ∈ Ps, H q ≠ none) (hr : R1ok K f r) (ha : EvD K ta σ H Ps b d) (hx : f d = .ok x) : EvD K (tUn r ta) σ H Ps false x := fun H0 s0 Q q =>
  ha H0 s0 _ fun v H1 s1 rv => hr v H1 Ps d x b Q (dom_same dom (s0.trans s1)) rv hx fun u H2 s2 ru => q u H2 (s1.trans s2) (.of ru)
theorem ev2 {f : D → D → Res D} {r : R2} (dom : ∀ q ∈ Ps, H q ≠ none) (hr : R2ok K f r) (ha : EvD K ta σ H Ps b d) (hb : EvD K tb σ H Ps c e) (hx : f d e = .ok x) : EvD K (tOp r ta tb) σ H Ps false x := fun H0 s0 Q q =>
  ha H0 s0 _ fun v H1 s1 rv => hb H1 (s0.trans s1) _ fun w H2 s2 rw => hr v w H2 Ps d e x b c Q (dom_same dom ((s0.trans s1).trans s2)) (rv.same (dom_same dom (s0.trans s1)) s2) rw hx fun u H3 s3 ru => q u H3 ((s1.trans s2).trans s3) (.of ru)
/-- a test by an expression's truth -/
theorem evT {t : Bool} (dom : ∀ q ∈ Ps, H q ≠ none) (ha : EvD K ta σ H Ps b d) (ht : truth d = .ok t) : EvB (fun σ H Q => ta σ H fun x H' => ∃ k, TruV K x H' k ∧ Q k H') σ H t := fun H0 s0 Q q =>
  ha H0 s0 _ fun v H1 s1 rv => ⟨t, tru_of rv ht, q H1 s1⟩
/-- a comparison's test -/
theorem evTest {t : Bool} (ha : EvD K ta σ H Ps b (.bool t)) : EvB (tTest ta) σ H t := fun H0 s0 Q q =>
  ha H0 s0 _ fun v H1 s1 rv => ⟨t, rv.bl, q H1 s1⟩
end

/-! ### the context -/
/-- what a def of ours promises -/
def spF (K : PySem.W.Frag) (ar : Nat) (r : List D → Res D) : Sp := fun vs H Q E => vs.length = ar ∧ ∃ (ds : List D) (Ps : List Addr) (d : D), RpAll K (hide H Ps) vs ds ∧ (∀ q ∈ Ps, H q ≠ none) ∧ r ds = .ok d ∧
  ∀ v H', Same H H' → Rp K (hide H' Ps) v d → Q v H'
/-- what a module's name stands for -/
def gV : Value → V
  | .none => .non
  | .bool b => .bl b
  | .int i _ => .int i
  | .str x _ => .str x
  | .ref a => .ref a
  | _ => .non
def gK (K : PySem.W.Frag) (x : Str) : V := match PySem.W.nsIn K mainGlobals x with
  | some (some u) => gV u
  | _ => .non
structure Gd (S : Sx) (k : Nat) (defs : Nat → Option FDef) (K : PySem.W.Frag) (X : Cx) : Prop where
  hK : X.K = K
  N : X.N = S.N
  nd : S.N.Nodup
  sc : X.env.scope = S.sc
  calm : X.calm = true
  room : Room k X.A
  fn : X.fn = S.fnc
  free : ∀ x ∈ freeNames, X.mg x = none
  gls : ∀ p ∈ S.gl, ∃ u, X.mg p.1 = some u ∧ RelV (gK K p.1) u
  glr : ∀ p ∈ S.gl, ∀ H, Rp K H (gK K p.1) p.2
  fns : ∀ (f : Nat) (x : Str) (ar : Nat), S.fnm f = some (x, ar) → ∃ a fd ps, X.mg x = some (.ref a) ∧ PySem.W.keepIn X.K (.ref a) = true ∧ Binds X.K fd ps [] ∧
    FnOk X.prog X.w X.K X.mg X.base (L2.CX X.prog X.w) k a fd ps (spF X.K ar (callF defs k f))
section
variable {S : Sx} {k : Nat} {defs : Nat → Option FDef} {K : PySem.W.Frag} {X : Cx}
theorem Gd.vis (g : Gd S k defs K X) {i : Nat} {x : Str} (h : visB S i x = true) : X.N[i]? = some x ∧ Vis X.env.scope x ∧ (x == ("__debug__" : Str)) = false ∧ (x == ("__classdict__" : Str)) = false := by
  unfold visB at h
  simp only [Bool.and_eq_true, decide_eq_true_eq, Bool.not_eq_true'] at h
  obtain ⟨⟨⟨h1, h2⟩, h3⟩, h4⟩ := h
  refine ⟨by rw [g.N]; exact h1, ?_, h3, h4⟩
  rw [g.sc]
  unfold Vis
  cases e : S.sc.names.lookup x with
  | none => rw [e] at h2; cases h2
  | some kd => cases kd <;> first | (rw [e] at h2; cases h2; done) | simp
theorem Gd.gl (g : Gd S k defs K X) {x : Str} (h : glB S x = true) : Gl X x := by
  unfold glB at h
  show X.env.scope.names.lookup x = _
  rw [g.sc]
  cases e : S.sc.names.lookup x with
  | none => rw [e] at h; cases h
  | some kd => cases kd <;> first | (rw [e] at h; cases h; done) | rfl
theorem Gd.loc (g : Gd S k defs K X) {i : Nat} {x : Str} (h : locB S i x = true) : X.N[i]? = some x ∧ L2.Loc X.env.scope x ∧ (X.fn x = true ∨ X.env.scope.names.lookup x = some .local) := by
  unfold locB at h
  simp only [Bool.and_eq_true, decide_eq_true_eq] at h
  obtain ⟨h1, h2⟩ := h
  refine ⟨by rw [g.N]; exact h1, ?_⟩
  rw [g.sc, g.fn]
  unfold L2.Loc
  cases e : S.sc.names.lookup x with
  | none => rw [e] at h2; cases h2
  | some kd => cases kd <;> first | (rw [e] at h2; cases h2; done) | (rw [e] at h2; simp; try exact h2)
theorem Gd.hu (g : Gd S k defs K X) : X.A.units + 64 < cLine := g.room.units
end
theorem star1 {e : Expr} {es : List Expr} {env : Env} (h : noStar e = true) : starEach (e :: es) env = (false, eval e env) :: starEach es env := by
  cases e <;> first | rfl | cases h
theorem sub_plain {b : Expr} (h : noSlice b = true) : PlainIx b := fun o i => by
  cases b <;> first | rfl | cases h
theorem base_plain {o : Expr} {n : Str} {env : Env} (h : noCall0 o = true) : attributeBase o n env (eval o env) = eval o env := by
  unfold attributeBase
  cases o with
  | Call f as ks p =>
    cases f <;> first | rfl | skip
    cases as <;> first | rfl | skip
    cases ks <;> first | rfl | cases h
  | _ => rfl
theorem mark_plain {op : CmpOp} {b : Expr} (h : noSet b = true) : behindInMarks op b = false := by
  cases b <;> first | rfl | cases h
theorem test_plain {e : Expr} {env : Env} (h : plainTest e = true) (whole : Sem Value) : isTrue e env whole = (do let v ← whole; standAt e.pos; holding [v] (truthy v)) := by
  cases e with
  | UnaryOp op x p => cases op <;> first | rfl | cases h
  | BoolOp _ _ _ => cases h
  | IfExp _ _ _ _ => cases h
  | Compare _ _ _ _ => cases h
  | _ => rfl

/-! ### comparisons, operators -/
section
variable {S : Sx} {k : Nat} {defs : Nat → Option FDef} {K : PySem.W.Frag} {X : Cx}
theorem cmp_ok : ∀ {op : Op2} {c : CmpOp}, cmpOf op = some c → ∃ r, (∀ X, Gd S k defs K X → OpR X (compareOp c) r) ∧ R2ok K (op2 op) r
  | .eq, _, h => by cases h; exact ⟨rEqM K, fun X g => g.hK ▸ op_eqM g.hu, r_eq⟩
  | .ne, _, h => by cases h; exact ⟨rNeM K, fun X g => g.hK ▸ op_neM g.hu, r_ne⟩
  | .lt, _, h => by cases h; exact ⟨rLtAll, fun X g => op_lt.or op_lt_str, r_lt⟩
  | .le, _, h => by cases h; exact ⟨rLeAll, fun X g => op_le.or op_le_str, r_le⟩
  | .gt, _, h => by cases h; exact ⟨rGtAll, fun X g => op_gt.or op_gt_str, r_gt⟩
  | .ge, _, h => by cases h; exact ⟨rGeAll, fun X g => op_ge.or op_ge_str, r_ge⟩
  | .is, _, h => by cases h; exact ⟨rIsAll, fun X g => op_isN.or op_isB, r_is⟩
  | .isnot, _, h => by cases h; exact ⟨rIsNotAll, fun X g => op_notN.or op_notB, r_isnot⟩
  | .in_, _, h => by cases h; exact ⟨rInAll K false, fun X g => g.hK ▸ (op_inDct g.hu).or (op_in_sign.or (op_inM g.hu)), r_in⟩
  | .notin, _, h => by cases h; exact ⟨rInAll K true, fun X g => g.hK ▸ (op_notInDct g.hu).or (op_notIn_sign.or (op_notInM g.hu)), r_notin⟩
  | .add, _, h | .sub, _, h | .mul, _, h | .mod, _, h | .fdiv, _, h | .pow, _, h | .idx, _, h | .fm, _, h | .to, _, h | .min2, _, h | .max2, _, h | .index, _, h | .join, _, h | .count, _, h => by cases h
theorem bin_ok : ∀ {op : Op2} {c : Operator}, binOf op = some c → ∃ r, (∀ X : Cx, X.K = K → OpR X (binaryOp c) r) ∧ R2ok K (op2 op) r
  | .add, _, h => by cases h; exact ⟨rAddAll K, fun X g => g ▸ op_addBI.or (op_add.or (op_add_str.or (op_cat.or op_catA))), r_add⟩
  | .sub, _, h => by cases h; exact ⟨rSubAll, fun X g => op_subBI.or (op_subIB.or op_sub), r_sub⟩
  | .mul, _, h => by cases h; exact ⟨rMulAll, fun X g => op_mulBI.or (op_mul.or (op_rep.or op_repS)), r_mul⟩
  | .mod, _, h => by cases h; exact ⟨_, fun X g => op_mod, r_mod⟩
  | .pow, _, h => by cases h; exact ⟨_, fun X g => op_pow, r_pow⟩
  | .eq, _, h | .ne, _, h | .lt, _, h | .le, _, h | .gt, _, h | .ge, _, h | .is, _, h | .isnot, _, h | .in_, _, h | .notin, _, h | .fdiv, _, h | .idx, _, h | .fm, _, h | .to, _, h | .min2, _, h | .max2, _, h | .index, _, h | .join, _, h | .count, _, h => by cases h
/-- two places: how an expression comes of its parts -/
def Sem2 (C : Cx → Prop) (K : PySem.W.Frag) (e x y : Expr) (ta tb : TE) (f : D → D → Res D) : Prop := ∃ t, (∀ X, C X → PE X x ta → PE X y tb → PE X e t) ∧
  ∀ σ H Ps b c d d' z, (∀ q ∈ Ps, H q ≠ none) → EvD K ta σ H Ps b d → EvD K tb σ H Ps c d' → f d d' = .ok z → EvD K t σ H Ps false z
def Sem1 (C : Cx → Prop) (K : PySem.W.Frag) (e x : Expr) (ta : TE) (f : D → Res D) : Prop := ∃ t, (∀ X, C X → PE X x ta → PE X e t) ∧
  ∀ σ H Ps b d z, (∀ q ∈ Ps, H q ≠ none) → EvD K ta σ H Ps b d → f d = .ok z → EvD K t σ H Ps false z
theorem sem2_of {C : Cx → Prop} {e x y : Expr} {ta tb : TE} {f : D → D → Res D} {r : R2} (h : ∀ X, C X → PE X x ta → PE X y tb → PE X e (tOp r ta tb)) (hr : R2ok K f r) : Sem2 C K e x y ta tb f :=
  ⟨_, h, fun _ _ _ _ _ _ _ _ dom ha hb hx => ev2 dom hr ha hb hx⟩
theorem sem1_of {C : Cx → Prop} {e x : Expr} {ta : TE} {f : D → Res D} {r : V → Hp → VK → Prop} (h : ∀ X, C X → PE X x ta → PE X e (tUn r ta)) (hr : R1ok K f r) : Sem1 C K e x ta f :=
  ⟨_, h, fun _ _ _ _ _ _ dom ha hx => ev1 dom hr ha hx⟩
theorem cmpE_ok {op : Op2} {e x y : Expr} (h : cmpE op e = some (x, y)) : ∃ c p, e = .Compare x [c] [y] p ∧ cmpOf op = some c ∧ noSet y = true := by
  unfold cmpE at h
  split at h
  · split at h
    · rename_i hc
      cases h
      exact ⟨_, _, rfl, hc.1, hc.2⟩
    · cases h
  · cases h
theorem binE_ok {op : Op2} {e x y : Expr} (h : binE op e = some (x, y)) : ∃ c p, e = .BinOp x c y p ∧ binOf op = some c := by
  unfold binE at h
  split at h
  · split at h
    · rename_i hc
      cases h
      exact ⟨_, _, rfl, hc⟩
    · cases h
  · cases h
theorem ixE_ok {e x y : Expr} (h : ixE e = some (x, y)) : ∃ p, e = .Subscript x y p ∧ noSlice y = true := by
  unfold ixE at h
  split at h
  · split at h
    · rename_i hc
      cases h
      exact ⟨_, rfl, hc⟩
    · cases h
  · cases h
theorem methE1_ok {n : Str} {e x y : Expr} (h : methE1 n e = some (x, y)) : ∃ p q, e = .Call (.Attribute x n p) [y] [] q ∧ (p.endLine == q.line) = true ∧ noCall0 x = true ∧ noStar y = true := by
  unfold methE1 at h
  split at h
  · split at h
    · rename_i hc
      cases h
      obtain ⟨rfl, h1, h2, h3⟩ := hc
      exact ⟨_, _, rfl, h1, h2, h3⟩
    · cases h
  · cases h
theorem bcall_ok {S : Sx} {n : Str} {e x : Expr} (h : bcall S n e = some x) : ∃ p q, e = .Call (.Name n p) [x] [] q ∧ glB S n = true ∧ noStar x = true := by
  unfold bcall at h
  split at h
  · split at h
    · rename_i hc
      cases h
      obtain ⟨rfl, h1, h2⟩ := hc
      exact ⟨_, _, rfl, h1, h2⟩
    · cases h
  · cases h
theorem howE_ok {S : Sx} {e x : Expr} (h : howE S e = some x) : ∃ p p2 q pos, e = .Call (.Name "len" p) [.Call (.Name "set" p2) [x] [] q] [] pos ∧ glB S "len" = true ∧ glB S "set" = true ∧ noStar x = true := by
  unfold howE at h
  split at h
  · split at h
    · rename_i hc
      cases h
      obtain ⟨rfl, rfl, h1, h2, h3⟩ := hc
      exact ⟨_, _, _, _, rfl, h1, h2, h3⟩
    · cases h
  · cases h
theorem revE_ok {e x : Expr} (h : revE e = some x) : ∃ k p1 p2 p3 pos, e = .Subscript x (.Slice none none (some (.UnaryOp .USub (.Constant (.int 1) k p1) p2)) p3) pos := by
  unfold revE at h
  split at h
  · split at h
    · rename_i u _ _ _ _ _ hc
      have : u = .USub := by simpa using hc
      subst this
      cases h
      exact ⟨_, _, _, _, _, rfl⟩
    · cases h
  · cases h
theorem methE0_ok {n : Str} {e x : Expr} (h : methE0 n e = some x) : ∃ p q, e = .Call (.Attribute x n p) [] [] q ∧ (p.endLine == q.line) = true ∧ noCall0 x = true := by
  unfold methE0 at h
  split at h
  · split at h
    · rename_i hc
      cases h
      obtain ⟨rfl, h1, h2⟩ := hc
      exact ⟨_, _, rfl, h1, h2⟩
    · cases h
  · cases h
theorem slE_ok {e x : Expr} {lo hi : Option Expr} (h : slE e = some (x, lo, hi)) : ∃ p pos, e = .Subscript x (.Slice lo hi none p) pos := by
  unfold slE at h
  split at h
  · cases h; exact ⟨_, _, rfl⟩
  · cases h
theorem get2E_ok {e x y z : Expr} (h : get2E e = some (x, y, z)) : ∃ p q, e = .Call (.Attribute x "get" p) [y, z] [] q ∧ (p.endLine == q.line) = true ∧ noCall0 x = true ∧ noStar y = true ∧ noStar z = true := by
  unfold get2E at h
  split at h
  · split at h
    · rename_i hc
      cases h
      obtain ⟨rfl, h1, h2, h3, h4⟩ := hc
      exact ⟨_, _, rfl, h1, h2, h3, h4⟩
    · cases h
  · cases h
theorem unE_ok {u : UnaryOp} {e x : Expr} (h : unE u e = some x) : ∃ v p, e = .UnaryOp v x p ∧ (v == u) = true := by
  unfold unE at h
  split at h
  · split at h
    · rename_i hc
      cases h
      exact ⟨_, _, rfl, hc⟩
    · cases h
  · cases h
theorem Sem2.cmp {op : Op2} {e x y : Expr} {ta tb : TE} (h : cmpE op e = some (x, y)) : Sem2 (Gd S k defs K) K e x y ta tb (op2 op) := by
  obtain ⟨c, p, rfl, h1, h2⟩ := cmpE_ok h
  obtain ⟨r, ho, hr⟩ := cmp_ok (S := S) (k := k) (defs := defs) (K := K) h1
  exact sem2_of (fun X g hx hy => pe_cmpR (ho X g) hx hy (mark_plain h2)) hr
theorem Sem2.bin {op : Op2} {e x y : Expr} {ta tb : TE} (h : binE op e = some (x, y)) : Sem2 (Gd S k defs K) K e x y ta tb (op2 op) := by
  obtain ⟨c, p, rfl, h1⟩ := binE_ok h
  obtain ⟨r, ho, hr⟩ := bin_ok (K := K) h1
  exact sem2_of (fun X g hx hy => pe_op (ho X g.hK) hx hy) hr
theorem Sem2.ix {e x y : Expr} {ta tb : TE} (h : ixE e = some (x, y)) : Sem2 (Gd S k defs K) K e x y ta tb idxD := by
  obtain ⟨p, rfl, h1⟩ := ixE_ok h
  exact sem2_of (fun X g hx hy => g.hK ▸ pe_ix ((ix_dct g.hu).or ix_seq) hx hy (sub_plain h1)) r_idx
theorem strOk_join (s : Str) (hs : PyData.strOk s = true) : ∀ xs : List Str, (∀ x ∈ xs, PyData.strOk x = true) → PyData.strOk (Str.join s xs) = true
  | [], _ => by unfold PyData.strOk; simp [Str.join, Str.empty]
  | [x], h => h x (by simp)
  | x :: y :: r, h => by
    show PyData.strOk (x ++ s ++ Str.join s (y :: r)) = true
    exact strOk_append (strOk_append (h x (by simp)) hs) (strOk_join s hs (y :: r) fun z hz => h z (List.mem_cons_of_mem _ hz))
theorem length_join (s : Str) : ∀ xs : List Str, (Str.join s xs).length ≤ (xs.map Str.length).sum + xs.length * s.length
  | [] => by show 0 ≤ _; omega
  | [x] => by
    show x.length ≤ _
    simp only [List.map_cons, List.map_nil, List.sum_cons, List.sum_nil, List.length_cons, List.length_nil]
    omega
  | x :: y :: r => by
    have ih := length_join s (y :: r)
    show (x ++ s ++ Str.join s (y :: r)).length ≤ _
    rw [length_append_str, length_append_str, List.map_cons, List.sum_cons, List.length_cons, Nat.add_mul]
    omega
theorem line_eq : (sizeLine : Nat) = 16777216 := sizeLine_eq
theorem Sem2.join {e x y : Expr} {ta tb : TE} (h : methE1 "join" e = some (x, y)) : Sem2 (Gd S k defs K) K e x y ta tb joinD := by
  obtain ⟨p, q, rfl, h1, h2, h3⟩ := methE1_ok h
  refine ⟨_, fun X g hx hy => g.hK ▸ pe_join hx hy (star1 h3) (base_plain h2) h1, fun σ H Ps b c d d' z dom ha hb hz H0 s0 Q qq => ?_⟩
  cases d with
  | str s =>
    cases d' with
    | list ds =>
      refine ha H0 s0 _ fun v H1 s1 rv => ?_
      obtain ⟨rfl, a1, a2⟩ := rv.str
      refine ⟨⟨s, rfl⟩, hb H1 (s0.trans s1) _ fun w H2 s2 rw => ?_⟩
      obtain ⟨a, vs, rfl, e1, r, zz⟩ := rw.list
      have hz' : (match strsD ds with | some (xs : List Str) => if fits ((xs.map Str.length).sum + xs.length * s.length) then Res.ok (PyData.str (Str.join s xs)) else .bad | none => .bad) = .ok z := hz
      cases hs : strsD ds with
      | none => rw [hs] at hz'; cases hz'
      | some xs =>
        rw [hs] at hz'
        obtain ⟨b1, b2⟩ := strs_of r hs
        by_cases hf : fits ((xs.map Str.length).sum + xs.length * s.length) = true
        · have hz2 : (if fits ((xs.map Str.length).sum + xs.length * s.length) = true then Res.ok (PyData.str (Str.join s xs)) else .bad) = .ok z := hz'
          rw [if_pos hf] at hz2; cases hz2
          have hf' : (xs.map Str.length).sum + xs.length * s.length ≤ sizeLine := of_decide_eq_true hf
          refine ⟨s, a, xs, rfl, rfl, .inl (SqL.of (by rw [← b1]; exact e1)), by rw [← line_eq]; exact hf', ?_⟩
          have e : Txt.join s xs = Str.join s xs := PySem.StrLaws.glued_eq_join s xs
          rw [e]
          exact qq _ _ (s1.trans s2) (.of (.str (Nat.le_trans (length_join s xs) hf') (strOk_join s a2 xs b2)))
        · have hz2 : (if fits ((xs.map Str.length).sum + xs.length * s.length) = true then Res.ok (PyData.str (Str.join s xs)) else .bad) = .ok z := hz'
          rw [if_neg hf] at hz2; cases hz2
    | _ => cases hz
  | _ => cases hz
theorem sem2_ok {op : Op2} {e x y : Expr} {ta tb : TE} (h : sh2 S op e = some (x, y)) : Sem2 (Gd S k defs K) K e x y ta tb (op2 op) := by
  cases op <;> first | exact Sem2.cmp h | exact Sem2.bin h | exact Sem2.ix h | exact Sem2.join h | cases h
theorem Sem1.up {e x : Expr} {ta : TE} (h : methE0 "upper" e = some x) : Sem1 (Gd S k defs K) K e x ta upperD := by
  obtain ⟨p, q, rfl, h1, h2⟩ := methE0_ok h
  refine ⟨_, fun X g hx => pe_upper hx (base_plain h2) h1, fun σ H Ps b d z dom ha hz H0 s0 Q qq => ?_⟩
  cases d with
  | str s =>
    have hz : (if (decide (s.length ≤ 5592405) && fits (Txt.upper s).length && PyData.strOk (Txt.upper s)) = true then Res.ok (PyData.str (Txt.upper s)) else .bad) = .ok z := hz
    split at hz
    · rename_i hc
      cases hz
      simp only [Bool.and_eq_true, decide_eq_true_eq] at hc
      refine ha H0 s0 _ fun v H1 s1 rv => ?_
      obtain ⟨rfl, a1, a2⟩ := rv.str
      exact ⟨⟨s, rfl⟩, s, rfl, rfl, hc.1.1, qq _ _ s1 (.of (.str (of_decide_eq_true hc.1.2) hc.2))⟩
    · cases hz
  | _ => cases hz
theorem boot_any : bootBuiltins "any" = some (.builtin "any") := by decide +kernel
theorem boot_all : bootBuiltins "all" = some (.builtin "all") := by decide +kernel
theorem boot_tuple' : bootBuiltins "tuple" = some (.type "tuple") := by decide +kernel
theorem boot_list' : bootBuiltins "list" = some (.type "list") := by decide +kernel
theorem boot_int' : bootBuiltins "int" = some (.type "int") := by decide +kernel
theorem sem1_ok {op : Op1} {e x : Expr} {ta : TE} (h : sh1 S op e = some x) : Sem1 (Gd S k defs K) K e x ta (op1 op) := by
  cases op with
  | neg =>
    obtain ⟨v, p, rfl, hv⟩ := unE_ok (show unE .USub e = some x from h)
    have : v = .USub := by simpa using hv
    subst this
    exact sem1_of (fun X g hx => pe_un un_neg hx) r_neg
  | not =>
    obtain ⟨v, p, rfl, hv⟩ := unE_ok (show unE .Not e = some x from h)
    have : v = .Not := by simpa using hv
    subst this
    exact sem1_of (fun X g hx => g.hK ▸ pe_notT hx) r_not
  | len =>
    obtain ⟨p, q, rfl, h1, h2⟩ := bcall_ok (show bcall S "len" e = some x from h)
    exact sem1_of (fun X g hx => g.hK ▸ pe_callB call_len (g.gl h1) (g.free _ (by decide +kernel)) PySem.boot_len (pa_cons hx pa_nil (star1 h2)) (he := star1 h2)) r_len
  | any =>
    obtain ⟨p, q, rfl, h1, h2⟩ := bcall_ok (show bcall S "any" e = some x from h)
    exact sem1_of (fun X g hx => g.hK ▸ pe_callB (cr_any g.calm) (g.gl h1) (g.free _ (by decide +kernel)) boot_any (pa_cons hx pa_nil (star1 h2)) (he := star1 h2)) r_any
  | all =>
    obtain ⟨p, q, rfl, h1, h2⟩ := bcall_ok (show bcall S "all" e = some x from h)
    exact sem1_of (fun X g hx => g.hK ▸ pe_callB (cr_all g.calm) (g.gl h1) (g.free _ (by decide +kernel)) boot_all (pa_cons hx pa_nil (star1 h2)) (he := star1 h2)) r_all
  | tuple =>
    obtain ⟨p, q, rfl, h1, h2⟩ := bcall_ok (show bcall S "tuple" e = some x from h)
    exact sem1_of (fun X g hx => g.hK ▸ pe_callTy call_tuple_of (g.gl h1) (g.free _ (by decide +kernel)) boot_tuple' (pa_cons hx pa_nil (star1 h2)) (he := star1 h2)) r_tuple
  | list =>
    obtain ⟨p, q, rfl, h1, h2⟩ := bcall_ok (show bcall S "list" e = some x from h)
    exact sem1_of (fun X g hx => g.hK ▸ pe_callTy call_list_of (g.gl h1) (g.free _ (by decide +kernel)) boot_list' (pa_cons hx pa_nil (star1 h2)) (he := star1 h2)) r_list
  | int =>
    obtain ⟨p, q, rfl, h1, h2⟩ := bcall_ok (show bcall S "int" e = some x from h)
    exact sem1_of (fun X g hx => pe_callTy call_int1 (g.gl h1) (g.free _ (by decide +kernel)) boot_int' (pa_cons hx pa_nil (star1 h2)) (he := star1 h2)) r_int
  | lenSet =>
    obtain ⟨p, p2, q, pos, rfl, h1, h2, h3⟩ := howE_ok (show howE S e = some x from h)
    exact sem1_of (fun X g hx => g.hK ▸ pe_how g.calm (g.gl h1) (g.free _ (by decide +kernel)) (g.gl h2) (g.free _ (by decide +kernel)) hx (star1 h3)) r_how
  | rev =>
    obtain ⟨k, p1, p2, p3, pos, rfl⟩ := revE_ok (show revE e = some x from h)
    exact sem1_of (fun X g hx => g.hK ▸ pe_turn hx) r_rev
  | upper => exact Sem1.up h
  | _ => cases h
end
end Tq

/-! Tq, part H: isinstance, targets, what is walked. -/
namespace Tq
open PySem L2 Res

/-! ### isinstance -/
def tyS : D → String
  | .none => "NoneType"
  | .bool _ => "bool"
  | .int _ => "int"
  | .str _ => "str"
  | .list _ => "list"
  | .tuple _ => "tuple"
  | .dict _ => "dict"
def tyN : Ty → String
  | .int => "int"
  | .str => "str"
  | .bool => "bool"
  | .tuple => "tuple"
  | .list => "list"
  | .intstr => "int"
theorem kit_all : (["NoneType", "bool", "int", "str", "list", "tuple"] : List String).all (fun a => (["int", "str", "bool", "tuple", "list"] : List String).all fun b => decide (kitB a b = some (decide (a = b) || (decide (a = "bool") && decide (b = "int"))))) = true := by decide +kernel
theorem kit_at {d : D} {t : Ty} (hd : ∀ k, d ≠ .dict k) (ht : t ≠ .intstr) : kitB (tyS d) (tyN t) = some (isTy d t) := by
  have h := kit_all
  simp only [List.all_cons, List.all_nil, Bool.and_true, Bool.and_eq_true, decide_eq_true_eq] at h
  cases d with
  | dict k => exact absurd rfl (hd k)
  | none => cases t <;> first | exact absurd rfl ht | (refine Eq.trans ?_ (by rfl : some _ = some _); simp only [tyS, tyN, isTy, h]; rfl)
  | bool b => cases t <;> first | exact absurd rfl ht | (refine Eq.trans ?_ (by rfl : some _ = some _); simp only [tyS, tyN, isTy, h]; rfl)
  | int i => cases t <;> first | exact absurd rfl ht | (refine Eq.trans ?_ (by rfl : some _ = some _); simp only [tyS, tyN, isTy, h]; rfl)
  | str x => cases t <;> first | exact absurd rfl ht | (refine Eq.trans ?_ (by rfl : some _ = some _); simp only [tyS, tyN, isTy, h]; rfl)
  | list x => cases t <;> first | exact absurd rfl ht | (refine Eq.trans ?_ (by rfl : some _ = some _); simp only [tyS, tyN, isTy, h]; rfl)
  | tuple x => cases t <;> first | exact absurd rfl ht | (refine Eq.trans ?_ (by rfl : some _ = some _); simp only [tyS, tyN, isTy, h]; rfl)
theorem sqT_ty {K : PySem.W.Frag} {H : Hp} {a : Addr} {xs : List V} (h : SqT K H a xs) : TyX K H (.ref a) (.type "tuple") := by
  rcases h with (h | ⟨o, h⟩) | ⟨o, its, n, h, hc, _⟩
  · exact .base (.tup h)
  · exact .fTuple h
  · exact .kTuple h hc
theorem RL.ty {K : PySem.W.Frag} {H : Hp} {Ps : List Addr} {b : Bool} {v : V} {d : D} (h : RL K H Ps b v d) (hd : ∀ k, d ≠ .dict k) : TyX K H v (.type (tyS d)) := by
  cases d with
  | dict k => exact absurd rfl (hd k)
  | none => cases h.non; exact .base .non
  | bool c => cases h.bl; exact .base (.bl c)
  | int i => cases h.int; exact .base (.int i)
  | str x => obtain ⟨rfl, _⟩ := h.str; exact .base (.str x)
  | list ds => obtain ⟨a, xs, rfl, e, _⟩ := h.list; exact .base (.lst e)
  | tuple ds => obtain ⟨a, xs, rfl, e, _⟩ := h.tuple; exact sqT_ty e
theorem isiE_ok {S : Sx} {t : Ty} {e x : Expr} (h : isiE S t e = some x) : ∃ p p2 q m, e = .Call (.Name "isinstance" p) [x, .Name m p2] [] q ∧ tyName t = some m ∧ glB S "isinstance" = true ∧ glB S m = true ∧ noStar x = true := by
  unfold isiE at h
  split at h
  · split at h
    · rename_i hc
      cases h
      obtain ⟨rfl, h1, h2, h3, h4⟩ := hc
      exact ⟨_, _, _, _, rfl, h1, h2, h3, h4⟩
    · cases h
  · cases h
theorem boot_isi : bootBuiltins "isinstance" = some (.builtin "isinstance") := by decide +kernel
theorem boot_ty : ∀ {t : Ty} {m : Str}, tyName t = some m → t ≠ .intstr ∧ m ∈ freeNames ∧ bootBuiltins m = some (.type (tyN t)) ∧ m ≠ "__name__" ∧ (m == ("__debug__" : Str)) = false
  | .int, _, h => by cases h; exact ⟨nofun, by decide +kernel, by decide +kernel, by decide +kernel, by decide +kernel⟩
  | .str, _, h => by cases h; exact ⟨nofun, by decide +kernel, by decide +kernel, by decide +kernel, by decide +kernel⟩
  | .bool, _, h => by cases h; exact ⟨nofun, by decide +kernel, by decide +kernel, by decide +kernel, by decide +kernel⟩
  | .tuple, _, h => by cases h; exact ⟨nofun, by decide +kernel, by decide +kernel, by decide +kernel, by decide +kernel⟩
  | .list, _, h => by cases h; exact ⟨nofun, by decide +kernel, by decide +kernel, by decide +kernel, by decide +kernel⟩
  | .intstr, _, h => by cases h
section
variable {S : Sx} {k : Nat} {defs : Nat → Option FDef} {K : PySem.W.Frag} {X : Cx}
theorem Sem1.isi {t : Ty} {e x : Expr} {ta : TE} (h : isiE S t e = some x) : Sem1 (Gd S k defs K) K e x ta (isiD t) := by
  obtain ⟨p, p2, q, m, rfl, h1, h2, h3, h4⟩ := isiE_ok h
  obtain ⟨b0, b1, b2, b3, b4⟩ := boot_ty h1
  refine ⟨_, fun X g hx => g.hK ▸ pe_callB call_isi (g.gl h2) (g.free _ (by decide +kernel)) boot_isi (pa_cons hx (pa_cons (pe_bltn (v := .ty (tyN t)) (g.gl h3) (g.free _ b1) b2 rfl b3 b4) pa_nil) (star1 h4)) (he := star1 h4), fun σ H Ps b d z dom ha hz H0 s0 Q qq => ?_⟩
  refine ha H0 s0 _ fun v H1 s1 rv => ?_
  have hd : ∀ kk, d ≠ .dict kk := fun kk e => by subst e; cases hz
  have hz' : Res.ok (PyData.bool (isTy d t)) = .ok z := by cases d <;> first | exact hz | exact absurd rfl (hd _)
  cases hz'
  exact ⟨v, .ty (tyN t), _, _, _, rfl, .ty _, rv.ty hd, kit_ty (kit_at hd b0), qq _ _ s1 (.of (.bl _))⟩
theorem boot_str' : bootBuiltins "str" = some (.type "str") := by decide +kernel
theorem isi2E_ok {e x : Expr} (h : isi2E S e = some x) : ∃ p p1 p2 kk pt q, e = .Call (.Name "isinstance" p) [x, .Tuple [.Name "int" p1, .Name "str" p2] kk pt] [] q ∧ glB S "isinstance" = true ∧ glB S "int" = true ∧ glB S "str" = true ∧ noStar x = true := by
  unfold isi2E at h
  split at h
  · split at h
    · rename_i hc
      cases h
      obtain ⟨rfl, rfl, rfl, h1, h2, h3, h4⟩ := hc
      exact ⟨_, _, _, _, _, _, rfl, h1, h2, h3, h4⟩
    · cases h
  · cases h
theorem kit_two {d : D} (hd : ∀ k, d ≠ .dict k) : PySem.W.kitAny K (.type (tyS d)) [.type "int", .type "str"] = some (isTy d .intstr) := by
  have h1 : PySem.W.kitOne K (.type (tyS d)) (.type "int") = some (isTy d .int) := kit_ty (kit_at (t := .int) hd nofun)
  have h2 : PySem.W.kitOne K (.type (tyS d)) (.type "str") = some (isTy d .str) := kit_ty (kit_at (t := .str) hd nofun)
  have e : isTy d .intstr = (isTy d .int || isTy d .str) := by cases d <;> rfl
  show (match PySem.W.kitOne K (.type (tyS d)) (.type "int") with | some true => some true | some false => PySem.W.kitAny K (.type (tyS d)) [.type "str"] | none => none) = _
  rw [h1, e]
  cases isTy d .int with
  | true => rfl
  | false =>
    show (match PySem.W.kitOne K (.type (tyS d)) (.type "str") with | some true => some true | some false => PySem.W.kitAny K (.type (tyS d)) [] | none => none) = _
    rw [h2]
    cases isTy d .str <;> rfl
theorem Sem1.isi2 {e x : Expr} {ta : TE} (h : isi2E S e = some x) : Sem1 (Gd S k defs K) K e x ta (isiD .intstr) := by
  obtain ⟨p, p1, p2, kk, pt, q, rfl, h1, h2, h3, h4⟩ := isi2E_ok h
  refine ⟨_, fun X g hx => g.hK ▸ pe_callB call_isiT (g.gl h1) (g.free _ (by decide +kernel)) boot_isi (pa_cons hx (pa_cons (pe_tup (pa_cons (pe_bltn (v := .ty "int") (g.gl h2) (g.free _ (by decide +kernel)) boot_int' rfl) (pa_cons (pe_bltn (v := .ty "str") (g.gl h3) (g.free _ (by decide +kernel)) boot_str' rfl) pa_nil))) pa_nil) (star1 h4)) (he := star1 h4), fun σ H Ps b d z dom ha hz H0 s0 Q qq => ?_⟩
  refine ha H0 s0 _ fun v H1 s1 rv => ?_
  have hd : ∀ kk, d ≠ .dict kk := fun kk e => by subst e; cases hz
  have hz' : Res.ok (PyData.bool (isTy d .intstr)) = .ok z := by cases d <;> first | exact hz | exact absurd rfl (hd _)
  cases hz'
  refine ⟨by show 2 ≤ sizeLine; decide, fun p hp => ?_⟩
  refine ⟨v, p, [.ty "int", .ty "str"], .type (tyS d), [.type "int", .type "str"], _, rfl, upd_same, .cons (.ty _) (.cons (.ty _) .nil), ?_, kit_two hd, qq _ _ (s1.trans (same_upd hp)) (.of (.bl _))⟩
  exact (rv.same (dom_same dom (s0.trans s1)) (same_upd hp)).ty hd
theorem Sem1.isiA {t : Ty} {e x : Expr} {ta : TE} (h : isiAll S t e = some x) : Sem1 (Gd S k defs K) K e x ta (isiD t) := by
  cases t with
  | intstr => exact Sem1.isi2 h
  | int => exact Sem1.isi (t := .int) h
  | str => exact Sem1.isi (t := .str) h
  | bool => exact Sem1.isi (t := .bool) h
  | tuple => exact Sem1.isi (t := .tuple) h
  | list => exact Sem1.isi (t := .list) h
theorem isiAll_plain {t : Ty} {e x : Expr} (h : isiAll S t e = some x) : plainTest e = true := by
  cases t with
  | intstr => obtain ⟨_, _, _, _, _, _, rfl, _⟩ := isi2E_ok h; rfl
  | int => obtain ⟨_, _, _, _, rfl, _⟩ := isiE_ok (show isiE S .int e = some x from h); rfl
  | str => obtain ⟨_, _, _, _, rfl, _⟩ := isiE_ok (show isiE S .str e = some x from h); rfl
  | bool => obtain ⟨_, _, _, _, rfl, _⟩ := isiE_ok (show isiE S .bool e = some x from h); rfl
  | tuple => obtain ⟨_, _, _, _, rfl, _⟩ := isiE_ok (show isiE S .tuple e = some x from h); rfl
  | list => obtain ⟨_, _, _, _, rfl, _⟩ := isiE_ok (show isiE S .list e = some x from h); rfl
end

/-! ### targets -/
theorem asg_star {e : Expr} {es : List Expr} {env : Env} (h : noStar e = true) : assignEach (e :: es) env = (false, assign e env) :: assignEach es env := by
  cases e <;> first | rfl | cases h
theorem asg_len {S : Sx} {env : Env} : ∀ {ts : Tgs} {es : List Expr}, chkTs S ts es = true → (assignEach es env).length = es.length ∧ (assignEach es env).findIdx? (·.1) = none
  | .nil, [], _ => ⟨rfl, rfl⟩
  | .nil, _ :: _, h => by simp [chkTs] at h
  | .cons _ _, [], h => by simp [chkTs] at h
  | .cons t ts, e :: es, h => by
    simp only [chkTs, Bool.and_eq_true] at h
    obtain ⟨a, b⟩ := asg_len (env := env) h.2
    rw [asg_star h.1.1]
    refine ⟨by simp [a], ?_⟩
    rw [List.findIdx?_cons]
    simp [b]
/-- like slots outside -/
def Out (ns : List Nat) {α : Type} (a b : List α) : Prop := a.length = b.length ∧ ∀ i, i ∉ ns → a[i]? = b[i]?
theorem Out.refl {ns : List Nat} {α : Type} (a : List α) : Out ns a a := ⟨rfl, fun _ _ => rfl⟩
theorem Out.trans {ns : List Nat} {α : Type} {a b c : List α} (h : Out ns a b) (h' : Out ns b c) : Out ns a c := ⟨h.1.trans h'.1, fun i hi => (h.2 i hi).trans (h'.2 i hi)⟩
theorem Out.mono {ns ms : List Nat} {α : Type} {a b : List α} (h : Out ns a b) (s : ∀ i ∈ ns, i ∈ ms) : Out ms a b := ⟨h.1, fun i hi => h.2 i fun z => hi (s i z)⟩
section
variable {S : Sx} {k : Nat} {defs : Nat → Option FDef} {K : PySem.W.Frag} {X : Cx}
/-- what a target does -/
def TgOk (K : PySem.W.Frag) (M : List Nat) (t : Tg) (g : TG) : Prop := ∀ v σ H Ps env env' d Q, EnvR K M H Ps σ env → Rp K (hide H Ps) v d → t.put d env = .ok env' → (∀ σ', Out t.slots σ' σ → EnvR K M H Ps σ' env' → Q σ' H) → g v σ H Q
def TgsOk (K : PySem.W.Frag) (M : List Nat) (t : Tgs) (g : TGs) : Prop := ∀ vs σ H Ps env env' ds Q, EnvR K M H Ps σ env → RpAll K (hide H Ps) vs ds → t.put ds env = .ok env' → (∀ σ', Out t.slots σ' σ → EnvR K M H Ps σ' env' → Q σ' H) → g vs σ H Q
mutual
def tgR (K : PySem.W.Frag) : Tg → TG
  | .nm i => gName i
  | .tu ts => gTup K (tgN ts) (tgsR K ts)
def tgsR (K : PySem.W.Frag) : Tgs → TGs
  | .nil => gNil
  | .cons t ts => gCons (tgR K t) (tgsR K ts)
def tgN : Tgs → Nat
  | .nil => 0
  | .cons _ ts => tgN ts + 1
end
theorem tgN_len : ∀ {ts : Tgs} {es : List Expr}, chkTs S ts es = true → es.length = tgN ts
  | .nil, [], _ => rfl
  | .nil, _ :: _, h => by simp [chkTs] at h
  | .cons _ _, [], h => by simp [chkTs] at h
  | .cons t ts, e :: es, h => by
    simp only [chkTs, Bool.and_eq_true] at h
    rw [List.length_cons, tgN_len h.2]; rfl
mutual
theorem tg_pg (g : Gd S k defs K X) : ∀ {t : Tg} {e : Expr}, chkT S t e = true → PG X e (tgR K t)
  | .nm i, e, h => by
    cases e with
    | Name x p =>
      simp only [chkT, Bool.and_eq_true, Bool.not_eq_true'] at h
      obtain ⟨l1, l2, l3⟩ := g.loc h.1
      exact pg_name (by rw [g.N]; exact g.nd) l1 l2 l3
    | _ => simp [chkT] at h
  | .tu ts, e, h => by
    cases e with
    | Tuple es kk p =>
      have h' : chkTs S ts es = true := by simpa [chkT] using h
      obtain ⟨a, b⟩ := asg_len (env := X.env) h'
      exact g.hK ▸ pg_tup g.calm (g.hK ▸ tgs_pg g h') (by rw [a, tgN_len h']) b
    | _ => simp [chkT] at h
theorem tgs_pg (g : Gd S k defs K X) : ∀ {ts : Tgs} {es : List Expr}, chkTs S ts es = true → PGs X es (tgsR K ts)
  | .nil, [], _ => pgs_nil
  | .nil, _ :: _, h => by simp [chkTs] at h
  | .cons _ _, [], h => by simp [chkTs] at h
  | .cons t ts, e :: es, h => by
    simp only [chkTs, Bool.and_eq_true] at h
    exact pgs_cons (tg_pg g h.1.2) (tgs_pg g h.2) (by rw [asg_star h.1.1]; rfl)
end
mutual
theorem tg_ok : ∀ {t : Tg} {e : Expr}, chkT S t e = true → TgOk K S.M t (tgR K t)
  | .nm i, e, h => by
    cases e with
    | Name x p =>
      simp only [chkT, Bool.and_eq_true, Bool.not_eq_true'] at h
      intro v σ H Ps env env' d Q r rv hp q
      cases hp
      refine q _ ⟨by simp, fun j hj => ?_⟩ (r.set h.2 rv)
      rw [List.getElem?_set_ne (fun z => hj (by simp [Tg.slots, z]))]
    | _ => simp [chkT] at h
  | .tu ts, e, h => by
    cases e with
    | Tuple es kk p =>
      have h' : chkTs S ts es = true := by simpa [chkT] using h
      intro v σ H Ps env env' d Q r rv hput q
      cases d with
      | tuple ds =>
        cases rv with
        | tup hs ra z =>
          refine ⟨_, _, rfl, seqT (hide_le _ _) hs, ?_, tgs_ok h' _ σ H Ps env env' ds Q r ra hput q⟩
          rw [ra.length, tgs_len h' hput, tgN_len h']
      | _ => cases hput
    | _ => simp [chkT] at h
theorem tgs_len : ∀ {ts : Tgs} {es : List Expr} {ds : List D} {env env' : En}, chkTs S ts es = true → ts.put ds env = .ok env' → ds.length = es.length
  | .nil, [], [], _, _, _, _ => rfl
  | .nil, [], _ :: _, _, _, _, hp => by simp [Tgs.put] at hp
  | .nil, _ :: _, _, _, _, h, _ => by simp [chkTs] at h
  | .cons _ _, [], _, _, _, h, _ => by simp [chkTs] at h
  | .cons _ _, _ :: _, [], _, _, _, hp => by simp [Tgs.put] at hp
  | .cons t ts, e :: es, d :: ds, env, env', h, hp => by
    simp only [chkTs, Bool.and_eq_true] at h
    simp only [Tgs.put] at hp
    cases q : t.put d env with
    | ok e1 =>
      rw [q] at hp
      rw [List.length_cons, List.length_cons, tgs_len h.2 hp]
    | exc _ _ => rw [q] at hp; cases hp
    | bad => rw [q] at hp; cases hp
theorem tgs_ok : ∀ {ts : Tgs} {es : List Expr}, chkTs S ts es = true → TgsOk K S.M ts (tgsR K ts)
  | .nil, [], _ => fun vs σ H Ps env env' ds Q r rv hp q => by
      cases ds with
      | nil =>
        cases hp
        cases rv
        exact ⟨rfl, q _ (Out.refl _) r⟩
      | cons _ _ => simp [Tgs.put] at hp
  | .nil, _ :: _, h => by simp [chkTs] at h
  | .cons _ _, [], h => by simp [chkTs] at h
  | .cons t ts, e :: es, h => by
    simp only [chkTs, Bool.and_eq_true] at h
    intro vs σ H Ps env env' ds Q r rv hp q
    cases rv with
    | nil => simp [Tgs.put] at hp
    | cons h1 h2 =>
      rename_i v vs d ds
      simp only [Tgs.put] at hp
      cases qq : t.put d env with
      | ok e1 =>
        rw [qq] at hp
        refine ⟨v, vs, rfl, tg_ok h.1.2 v σ H Ps env e1 d _ r h1 qq fun σ1 u1 r1 => ?_⟩
        exact tgs_ok h.2 vs σ1 H Ps e1 env' ds Q r1 h2 hp fun σ2 u2 r2 => q σ2 ((u2.mono fun i hi => by simp [Tgs.slots, hi]).trans (u1.mono fun i hi => by simp [Tgs.slots, hi])) r2
      | exc _ _ => rw [qq] at hp; cases hp
      | bad => rw [qq] at hp; cases hp
end
end

/-! ### what is walked -/
structure IterOk (K : PySem.W.Frag) (J : It) (H1 : Hp) (Ps : List Addr) (ds : List D) : Prop where
  fit : ds.length ≤ sizeLine
  ex : ∃ G Y, Walk J ds.length G Y ∧ (∀ Ps' H', Same (hide H1 Ps) (hide H' Ps') → G H') ∧
    ∀ i Ps' Hi x H', i < ds.length → Same (hide H1 Ps) (hide Hi Ps') → (∀ q ∈ Ps', Hi q ≠ none) → Y i Hi x H' → Same Hi H' ∧ ∃ d, ds[i]? = some d ∧ Rp K (hide H' Ps') x d
def EvI (K : PySem.W.Frag) (wi : TI) (σ : St) (H : Hp) (Ps : List Addr) (ds : List D) : Prop :=
  ∀ H0, Same H H0 → ∀ R : It → Hp → Prop, (∀ J H1, Same H0 H1 → IterOk K J H1 Ps ds → R J H1) → wi σ H0 R
section
variable {K : PySem.W.Frag} {H : Hp} {Ps : List Addr} {ds : List D}
theorem iter_list {a : Addr} {xs : List V} (h : hide H Ps a = some (.lst xs)) (r : RpAll K (hide H Ps) xs ds) (z : ds.length ≤ sizeLine) : IterOk K (Itl K a) H Ps ds := by
  refine ⟨z, fun H => SqL K H a xs, YAt xs, by rw [← r.length]; exact walk_list, fun Ps' H' s => SqL.of (hide_le _ _ _ _ (s _ _ h)), fun i Ps' Hi x H' hi s dom y => ?_⟩
  obtain ⟨rfl, hx⟩ := y
  obtain ⟨d, h1, h2⟩ := r.get hx
  exact ⟨Same.refl _, d, h1, h2.mono s⟩
theorem iter_tup {a : Addr} {xs : List V} (h : SqT K (hide H Ps) a xs) (r : RpAll K (hide H Ps) xs ds) (z : ds.length ≤ sizeLine) : IterOk K (Itt K a) H Ps ds := by
  refine ⟨z, fun H => SqT K H a xs, YAt xs, by rw [← r.length]; exact walk_tup, fun Ps' H' s => seqT (hide_le _ _) (seqT s h), fun i Ps' Hi x H' hi s dom y => ?_⟩
  obtain ⟨rfl, hx⟩ := y
  obtain ⟨d, h1, h2⟩ := r.get hx
  exact ⟨Same.refl _, d, h1, h2.mono s⟩
theorem iter_str {x : Str} (h : PyData.strOk x = true) (z : x.length ≤ sizeLine) : IterOk K (Its x) H Ps (x.cps.toList.map fun c => .str ⟨#[c]⟩) := by
  have hl : (x.cps.toList.map fun c => (PyData.str ⟨#[c]⟩ : D)).length = x.cps.size := by simp
  refine ⟨by rw [hl]; exact z, fun _ => True, _, by rw [hl]; exact walk_str, fun _ _ _ => trivial, fun i Ps' Hi v H' hi s dom y => ?_⟩
  obtain ⟨rfl, c, hc, rfl⟩ := y
  have hc' : x.cps.toList[i]? = some c := by simpa using hc
  exact ⟨Same.refl _, _, by rw [List.getElem?_map, hc']; rfl, Rp.sing h (List.mem_of_getElem? hc')⟩
theorem rangeD_get : ∀ (n : Nat) (lo : Int) (i : Nat), i < n → (rangeD lo n)[i]? = some (.int (lo + i))
  | 0, _, _, h => absurd h (Nat.not_lt_zero _)
  | n + 1, lo, 0, _ => by simp [rangeD]
  | n + 1, lo, i + 1, h => by
    have := rangeD_get n (lo + 1) i (by omega)
    simp only [rangeD, List.getElem?_cons_succ, this]
    congr 2
    push_cast
    omega
theorem rangeD_length : ∀ (n : Nat) (lo : Int), (rangeD lo n).length = n
  | 0, _ => rfl
  | n + 1, lo => by simp [rangeD, rangeD_length n]
theorem iter_range {lo : Int} {n : Nat} (z : n ≤ sizeLine) : IterOk K (Itr lo n) H Ps (rangeD lo n) := by
  have hl := rangeD_length n lo
  refine ⟨by rw [hl]; exact z, fun _ => True, _, by rw [hl]; exact walk_range, fun _ _ _ => trivial, fun i Ps' Hi v H' hi s dom y => ?_⟩
  obtain ⟨rfl, rfl⟩ := y
  exact ⟨Same.refl _, _, rangeD_get n lo i (by rw [hl] at hi; exact hi), .int _⟩
end
theorem PI.or {X : Cx} {tg e : Expr} {w w' : TI} (h : PI X tg e w) (h' : PI X tg e w') : PI X tg e (fun σ H R => w σ H R ∨ w' σ H R) :=
  ⟨fun pins s σ H R I hw => hw.elim (h.run pins s σ H R I) (h'.run pins s σ H R I)⟩
section
variable {K : PySem.W.Frag} {σ : St} {H : Hp} {Ps : List Addr} {ta tb : TE} {d : D} {ds : List D}
def iSeq (K : PySem.W.Frag) (t : TE) : TI := fun σ H R => iList K t σ H R ∨ iTup K t σ H R ∨ iStr t σ H R
theorem pi_seq {X : Cx} {tg e : Expr} {t : TE} (h : PE X e t) : PI X tg e (iSeq X.K t) := PI.or (pi_list h) (PI.or (pi_tup h) (pi_str h))
theorem evSeq (ha : EvD K ta σ H Ps false d) (hd : itemsOf d = .ok ds) : EvI K (iSeq K ta) σ H Ps ds := fun H0 s0 R q => by
  cases d with
  | list xs =>
    cases hd
    refine .inl (ha H0 s0 _ fun v H1 s1 rv => ?_)
    cases rv.clean with
    | lst h r z => exact ⟨_, rfl, ⟨_, SqL.of (hide_le _ _ _ _ h)⟩, q _ _ s1 (iter_list h r z)⟩
  | tuple xs =>
    cases hd
    refine .inr (.inl (ha H0 s0 _ fun v H1 s1 rv => ?_))
    cases rv.clean with
    | tup h r z => exact ⟨_, rfl, ⟨_, seqT (hide_le _ _) h⟩, q _ _ s1 (iter_tup h r z)⟩
  | str x =>
    cases hd
    refine .inr (.inr (ha H0 s0 _ fun v H1 s1 rv => ?_))
    obtain ⟨rfl, z1, z2⟩ := rv.str
    exact ⟨x, rfl, q _ _ s1 (iter_str z2 z1)⟩
  | _ => cases hd
theorem evRng1 {n : Int} {b : Bool} (ha : EvD K ta σ H Ps b (.int n)) (h1 : -(2 ^ 62) ≤ n) (h2 : n ≤ (sizeLine : Int)) : EvI K (iRng1 (tCons ta tNil)) σ H Ps (rangeD 0 n.toNat) := fun H0 s0 R q =>
  ha H0 s0 _ fun v H1 s1 rv => by
    cases rv.int
    refine ⟨n, rfl, h1, ?_, q _ _ s1 (iter_range (by omega))⟩
    rw [line_eq] at h2
    omega
theorem evRng2 {i j : Int} {b c : Bool} (ha : EvD K ta σ H Ps b (.int i)) (hb : EvD K tb σ H Ps c (.int j)) (h1 : -(2 ^ 62) ≤ i ∧ i < 2 ^ 62 ∧ -(2 ^ 62) ≤ j ∧ j < 2 ^ 62) (h2 : j - i ≤ (sizeLine : Int)) : EvI K (iRng2 (tCons ta (tCons tb tNil))) σ H Ps (rangeD i (j - i).toNat) := fun H0 s0 R q =>
  ha H0 s0 _ fun v H1 s1 rv => hb H1 (s0.trans s1) _ fun w H2 s2 rw => by
    cases rv.int
    cases rw.int
    exact ⟨i, j, rfl, h1, q _ _ (s1.trans s2) (iter_range (by omega))⟩
end
end Tq

/-! Tq, part I: expressions. -/
namespace Tq
open PySem L2 Res

/-! ### small facts -/
theorem hide_upd_in {H : Hp} {p : Addr} {o : HO} {Ps : List Addr} (h : p ∈ Ps) : hide (upd H p o) Ps = hide H Ps := by
  funext a
  by_cases ha : a ∈ Ps
  · rw [hide_in ha, hide_in ha]
  · rw [hide_out ha, hide_out ha, upd_ne (fun z : a = p => ha (by rw [z]; exact h))]
def wipeE (env : En) : List Nat → En
  | [] => env
  | v :: vs => (wipeE env vs).set v none
theorem wipeE_eq (env : En) : ∀ vs, (wipeE env vs).length = env.length
  | [] => rfl
  | v :: vs => by unfold wipeE; rw [List.length_set, wipeE_eq env vs]
theorem wipeE_some {env : En} {i : Nat} {x : D} : ∀ {vs : List Nat}, (wipeE env vs)[i]? = some (some x) → env[i]? = some (some x) ∧ i ∉ vs
  | [], h => ⟨h, by simp⟩
  | v :: vs, h => by
    unfold wipeE at h
    by_cases hi : v = i
    · subst hi
      by_cases hv : v < (wipeE env vs).length
      · rw [List.getElem?_set_self hv] at h; cases h
      · rw [List.getElem?_eq_none (by simpa using hv)] at h; cases h
    · rw [List.getElem?_set_ne hi] at h
      obtain ⟨h1, h2⟩ := wipeE_some h
      exact ⟨h1, by simp only [List.mem_cons, not_or]; exact ⟨fun e => hi e.symm, h2⟩⟩
theorem wipeE_out {env : En} {i : Nat} : ∀ {vs : List Nat}, i ∉ vs → (wipeE env vs)[i]? = env[i]?
  | [], _ => rfl
  | v :: vs, h => by
    unfold wipeE
    simp only [List.mem_cons, not_or] at h
    rw [List.getElem?_set_ne (Ne.symm h.1), wipeE_out h.2]
theorem wipe_get {σ : St} {i : Nat} : ∀ {vs : List Nat}, i ∈ vs → (wipe σ vs)[i]? = if i < σ.length then some none else none
  | [], h => by simp at h
  | v :: vs, h => by
    unfold wipe
    by_cases hi : v = i
    · subst hi
      rw [List.getElem?_set]
      simp [wipe_length]
    · rw [List.getElem?_set_ne hi]
      exact wipe_get ((List.mem_cons.mp h).resolve_left fun z => hi z.symm)
theorem wipe_same {a b : St} {vs : List Nat} (h : Out vs a b) : wipe a vs = wipe b vs := by
  apply List.ext_getElem?
  intro i
  by_cases hi : i ∈ vs
  · rw [wipe_get hi, wipe_get hi, h.1]
  · rw [wipe_out hi, wipe_out hi, h.2 i hi]
theorem wipe_wipe {σ : St} {vs : List Nat} : wipe (wipe σ vs) vs = wipe σ vs := wipe_same ⟨wipe_length σ vs, fun i hi => wipe_out hi⟩
theorem EnvR.wipe {K : PySem.W.Frag} {M : List Nat} {H : Hp} {Ps : List Addr} {σ : St} {env : En} (r : EnvR K M H Ps σ env) (vs : List Nat) : EnvR K M H Ps (L2.wipe σ vs) (wipeE env vs) where
  get := fun i d h => by
    obtain ⟨h1, h2⟩ := wipeE_some h
    rw [wipe_out h2]
    exact r.get i d h1
  inj := fun i j p d e hi hj hij h1 h2 h3 h4 => by
    obtain ⟨a1, a2⟩ := wipeE_some h1
    obtain ⟨b1, b2⟩ := wipeE_some h2
    rw [wipe_out a2] at h3
    rw [wipe_out b2] at h4
    exact r.inj i j p d e hi hj hij a1 b1 h3 h4
  dom := r.dom
  len := by rw [wipe_length, wipeE_eq, r.len]
theorem out_nil {α : Type} {a b : List α} (h : Out [] a b) : a = b := List.ext_getElem? fun i => h.2 i (by simp)
mutual
theorem put_out : ∀ {t : Tg} {d : D} {R : List Nat} {a b a' : En}, Out (t.slots ++ R) a b → t.put d a = .ok a' → ∃ b', t.put d b = .ok b' ∧ Out R a' b'
  | .nm i, d, R, a, b, a', h, e => by
    cases e
    refine ⟨_, rfl, by simp [h.1], fun j hj => ?_⟩
    by_cases hij : i = j
    · subst hij
      rw [List.getElem?_set, List.getElem?_set]
      simp [h.1]
    · rw [List.getElem?_set_ne hij, List.getElem?_set_ne hij]
      exact h.2 j (by simp [Tg.slots, hj, Ne.symm hij])
  | .tu ts, d, R, a, b, a', h, e => by
    cases d with
    | tuple ds => exact puts_out (t := ts) (ds := ds) h e
    | _ => cases e
theorem puts_out : ∀ {t : Tgs} {ds : List D} {R : List Nat} {a b a' : En}, Out (t.slots ++ R) a b → t.put ds a = .ok a' → ∃ b', t.put ds b = .ok b' ∧ Out R a' b'
  | .nil, [], R, a, b, a', h, e => by cases e; exact ⟨b, rfl, by simpa [Tgs.slots] using h⟩
  | .nil, _ :: _, _, _, _, _, _, e => by simp [Tgs.put] at e
  | .cons _ _, [], _, _, _, _, _, e => by simp [Tgs.put] at e
  | .cons t ts, d :: ds, R, a, b, a', h, e => by
    simp only [Tgs.put] at e
    cases q : t.put d a with
    | ok a1 =>
      rw [q] at e
      obtain ⟨b1, e1, o1⟩ := put_out (t := t) (d := d) (R := ts.slots ++ R) (by simpa [Tgs.slots] using h) q
      obtain ⟨b2, e2, o2⟩ := puts_out (t := ts) (ds := ds) o1 e
      exact ⟨b2, by simp [Tgs.put, e1, e2], o2⟩
    | exc _ _ => rw [q] at e; cases e
    | bad => rw [q] at e; cases e
end
theorem put_wipe {t : Tg} {d : D} {a a' : En} (e : t.put d a = .ok a') : t.put d (wipeE a t.slots) = .ok a' := by
  obtain ⟨b', e1, o⟩ := put_out (R := []) (b := wipeE a t.slots) ⟨(wipeE_eq a _).symm, fun i hi => (wipeE_out (by simpa using hi)).symm⟩ e
  rw [e1, out_nil o]
theorem eachD_get {f : D → Res (Option D)} : ∀ {ds : List D} {r : List D} {i : Nat} {d : D}, eachD f ds = .ok r → ds[i]? = some d → ∃ o, f d = .ok o
  | [], _, _, _, _, e => by simp at e
  | x :: xs, r, i, d, h, e => by
    simp only [eachD] at h
    cases q : f x with
    | ok o =>
      rw [q] at h
      simp only [bind_ok] at h
      cases q2 : eachD f xs with
      | ok r2 =>
        cases i with
        | zero => simp at e; subst e; exact ⟨o, q⟩
        | succ i => exact eachD_get (i := i) q2 (by simpa using e)
      | exc _ _ => rw [q2] at h; cases h
      | bad => rw [q2] at h; cases h
    | exc _ _ => rw [q] at h; cases h
    | bad => rw [q] at h; cases h
theorem eachD_snoc {f : D → Res (Option D)} {d : D} {o : Option D} (hd : f d = .ok o) : ∀ {xs : List D} {r : List D}, eachD f xs = .ok r → eachD f (xs ++ [d]) = .ok (r ++ o.toList)
  | [], r, h => by
    cases h
    simp only [List.nil_append, eachD, hd, bind_ok]
    cases o <;> rfl
  | x :: xs, r, h => by
    simp only [eachD] at h
    cases q : f x with
    | ok p =>
      rw [q] at h
      simp only [bind_ok] at h
      cases q2 : eachD f xs with
      | ok r2 =>
        rw [q2] at h
        cases h
        simp only [List.cons_append, eachD, q, bind_ok, eachD_snoc hd q2]
        cases p <;> rfl
      | exc _ _ => rw [q2] at h; cases h
      | bad => rw [q2] at h; cases h
    | exc _ _ => rw [q] at h; cases h
    | bad => rw [q] at h; cases h
theorem starsAny {S : Sx} {env : Env} {pos : Pos} : ∀ {as : IEs} {es : List Expr}, chkEs S as es = true → (backTo pos (starEach es env)).any (·.1) = false
  | .nil, [], _ => rfl
  | .nil, _ :: _, h => by simp [chkEs] at h
  | .cons _ _, [], h => by simp [chkEs] at h
  | .cons a as, e :: es, h => by
    simp only [chkEs, Bool.and_eq_true] at h
    rw [star1 h.1.1.1]
    show (false || (backTo pos (starEach es env)).any (·.1)) = false
    rw [starsAny h.2]; rfl
theorem evalEs_len {ρ : Nat → List D → Res D} {S : Sx} {env : En} : ∀ {as : IEs} {es : List Expr} {ds : List D}, chkEs S as es = true → evalEs ρ as env = .ok ds → ds.length = es.length
  | .nil, [], _, _, e => by simp only [evalEs] at e; cases e; rfl
  | .nil, _ :: _, _, h, _ => by simp [chkEs] at h
  | .cons _ _, [], _, h, _ => by simp [chkEs] at h
  | .cons a as, e :: es, ds, h, he => by
    simp only [chkEs, Bool.and_eq_true] at h
    simp only [evalEs] at he
    cases q : evalE ρ a env with
    | ok d =>
      rw [q] at he
      simp only [bind_ok] at he
      cases q2 : evalEs ρ as env with
      | ok r => rw [q2] at he; cases he; rw [List.length_cons, List.length_cons, evalEs_len h.2 q2]
      | exc _ _ => rw [q2] at he; cases he
      | bad => rw [q2] at he; cases he
    | exc _ _ => rw [q] at he; cases he
    | bad => rw [q] at he; cases he
/-- a comparison's answer is a truth -/
theorem inB_bool {neg : Bool} {d e z : D} : ((inB d e).bind fun t => Res.ok (PyData.bool (if neg then !t else t))) = .ok z → ∃ t, z = .bool t := fun h => by
  cases q : inB d e with
  | ok t => rw [q] at h; cases h; exact ⟨_, rfl⟩
  | exc _ _ => rw [q] at h; cases h
  | bad => rw [q] at h; cases h
theorem cmp_bool : ∀ {op : Op2} {c : CmpOp} {d e z : D}, cmpOf op = some c → op2 op d e = .ok z → ∃ t, z = .bool t
  | .eq, _, d, e, z, _, h => by
    have h : (if eqOk d e then Res.ok (PyData.bool (PyData.eqv d e)) else .bad) = .ok z := h
    split at h <;> cases h; exact ⟨_, rfl⟩
  | .ne, _, d, e, z, _, h => by
    have h : (if eqOk d e then Res.ok (PyData.bool (!PyData.eqv d e)) else .bad) = .ok z := h
    split at h <;> cases h; exact ⟨_, rfl⟩
  | .lt, _, d, e, z, _, h => by cases d <;> cases e <;> first | (cases h; done) | (cases h; exact ⟨_, rfl⟩)
  | .le, _, d, e, z, _, h => by cases d <;> cases e <;> first | (cases h; done) | (cases h; exact ⟨_, rfl⟩)
  | .gt, _, d, e, z, _, h => by cases d <;> cases e <;> first | (cases h; done) | (cases h; exact ⟨_, rfl⟩)
  | .ge, _, d, e, z, _, h => by cases d <;> cases e <;> first | (cases h; done) | (cases h; exact ⟨_, rfl⟩)
  | .is, _, d, e, z, _, h => by cases e <;> first | (cases h; done) | (cases h; exact ⟨_, rfl⟩)
  | .isnot, _, d, e, z, _, h => by cases e <;> first | (cases h; done) | (cases h; exact ⟨_, rfl⟩)
  | .in_, _, d, e, z, _, h => inB_bool (neg := false) h
  | .notin, _, d, e, z, _, h => inB_bool (neg := true) h
  | .add, _, _, _, _, h, _ | .sub, _, _, _, _, h, _ | .mul, _, _, _, _, h, _ | .mod, _, _, _, _, h, _ | .fdiv, _, _, _, _, h, _ | .pow, _, _, _, _, h, _ | .idx, _, _, _, _, h, _ | .fm, _, _, _, _, h, _ | .to, _, _, _, _, h, _ | .min2, _, _, _, _, h, _ | .max2, _, _, _, _, h, _ | .index, _, _, _, _, h, _ | .join, _, _, _, _, h, _ | .count, _, _, _, _, h, _ => by cases h
theorem bind_split {α β : Type} {r : Res α} {f : α → Res β} {b : β} (h : r.bind f = .ok b) : ∃ a, r = .ok a ∧ f a = .ok b := by
  cases r with
  | ok a => exact ⟨a, rfl, h⟩
  | exc _ _ => cases h
  | bad => cases h
theorem tame_split {α : Type} {r : Res α} {a : α} (h : r.tame = .ok a) : r = .ok a := by
  cases r with
  | ok b => exact h
  | exc _ _ => cases h
  | bad => cases h
theorem andE_ok {op : BoolOp} {e x y : Expr} (h : andE op e = some (x, y)) : ∃ b rest p, e = .BoolOp op (x :: b :: rest) p ∧ y = (match rest with | [] => b | c :: r => .BoolOp op (b :: c :: r) p) := by
  unfold andE at h
  split at h
  · split at h
    · rename_i hc
      have hc := eq_of_beq hc
      subst hc
      cases h
      exact ⟨_, _, _, rfl, rfl⟩
    · cases h
  · cases h
theorem pe_rest {X : Cx} {op : BoolOp} {b : Expr} {rest : List Expr} {p : Pos} {t : TE} (h : PE X (match rest with | [] => b | c :: r => .BoolOp op (b :: c :: r) p) t) : PE X (.BoolOp op (b :: rest) p) t := by
  cases rest with
  | nil => exact pe_one h
  | cons c r => exact h
theorem pw_rest {X : Cx} {op : BoolOp} {b : Expr} {rest : List Expr} {p : Pos} {t : TT} (h : PT X (match rest with | [] => b | c :: r => .BoolOp op (b :: c :: r) p) t) : PW X (.BoolOp op (b :: rest) p) t := by
  cases rest with
  | nil =>
    cases op with
    | And => exact pw_and1 h
    | Or => exact pw_or1 h
  | cons c r => exact ⟨fun whole pins s σ H Q I q => h.run pins s σ H Q I q⟩

/-! ### new things -/
/-- u is a new thing, and nothing else leads to it -/
def Fr (K : PySem.W.Frag) (H H' : Hp) (Ps : List Addr) (u : V) : D → Prop
  | .list ds => ∃ p xs, u = .ref p ∧ H p = none ∧ H' p = some (.lst xs) ∧ RpAll K (hide H' (p :: Ps)) xs ds ∧ ds.length ≤ sizeLine
  | .dict kvs => ∃ p ks, u = .ref p ∧ H p = none ∧ H' p = some (.dK ks) ∧ RpKV K (hide H' (p :: Ps)) ks kvs ∧ kvs.length ≤ sizeLine
  | _ => False
def EvF (K : PySem.W.Frag) (t : TE) (σ : St) (H : Hp) (Ps : List Addr) (d : D) : Prop :=
  ∀ H0, Same H H0 → ∀ Q : VK, (∀ v H1, Same H0 H1 → Fr K H0 H1 Ps v d → Q v H1) → t σ H0 Q
theorem hide_more {H : Hp} {Ps : List Addr} {p : Addr} : Same (hide H (p :: Ps)) (hide H Ps) := fun a o h => by
  obtain ⟨h1, h2⟩ := hide_some h
  rw [hide_out fun zz => h1 (List.mem_cons_of_mem _ zz)]
  exact h2
theorem hide_new {H : Hp} {Ps : List Addr} {p : Addr} {o : HO} (h : H p = none) : Same (hide H Ps) (hide (upd H p o) (p :: Ps)) := fun a u q => by
  obtain ⟨h1, h2⟩ := hide_some q
  have ne : a ≠ p := ne_of_none h2 h
  rw [hide_out (by simp [ne, h1]), upd_ne ne]; exact h2
theorem Fr.rp {K : PySem.W.Frag} {H H' : Hp} {Ps : List Addr} {u : V} {d : D} (h : Fr K H H' Ps u d) (dom : ∀ q ∈ Ps, H q ≠ none) : Rp K (hide H' Ps) u d := by
  cases d with
  | list ds =>
    obtain ⟨p, xs, rfl, h1, h2, h3, h4⟩ := h
    exact .lst (by rw [hide_out (not_hid dom h1)]; exact h2) (h3.mono hide_more) h4
  | dict kvs =>
    obtain ⟨p, xs, rfl, h1, h2, h3, h4⟩ := h
    exact .dct (.inl (by rw [hide_out (not_hid dom h1)]; exact h2)) (h3.mono hide_more) h4
  | _ => exact False.elim h
theorem EvF.ev {K : PySem.W.Frag} {t : TE} {σ : St} {H : Hp} {Ps : List Addr} {d : D} (h : EvF K t σ H Ps d) (dom : ∀ q ∈ Ps, H q ≠ none) : EvD K t σ H Ps false d := fun H0 s0 Q q =>
  h H0 s0 Q fun v H1 s1 f => q v H1 s1 (.of (f.rp (dom_same dom s0)))

/-! ### a comprehension -/
section
variable {K : PySem.W.Frag} {M : List Nat}
theorem evCompF {t : Tg} {wi : TI} {tt : TT} {te : TE} {σ : St} {H : Hp} {env : En} {Ps : List Addr} {ds r : List D} {f : D → Res (Option D)} {vs : List Nat} (hvs : vs = t.slots)
    (re : EnvR K M H Ps σ env) (hi : EvI K wi σ H Ps ds) (ht : TgOk K M t (tgR K t)) (hr : eachD f ds = .ok r)
    (hf : ∀ d o, f d = .ok o → ∃ env', t.put d env = .ok env' ∧ ∀ σ' H' Ps', EnvR K M H' Ps' σ' env' → ∃ b, EvB tt σ' H' b ∧ (b = true → ∃ y, o = some y ∧ EvD K te σ' H' Ps' false y) ∧ (b = false → o = none)) :
    EvF K (tLc wi (tgR K t) tt te vs) σ H Ps (.list r) := by
  subst hvs
  intro H0 s0 Q q
  refine hi H0 s0 _ fun J H1 s1 it D hD => ?_
  obtain ⟨z, G, Y, w, stab, yl⟩ := it
  have re1 : EnvR K M H1 Ps σ env := re.same (s0.trans s1)
  have dom1 := re1.dom
  have nD : D ∉ Ps := not_hid dom1 hD
  -- what is kept
  have kp : ∀ Hi : Hp, Same H1 Hi → (∃ o, Hi D = some o) → Keep Ps H1 (D :: Ps) Hi := fun Hi s ⟨o, ho⟩ => {
    view := fun a u h => by
      obtain ⟨h1, h2⟩ := hide_some h
      have ne : a ≠ D := ne_of_none h2 hD
      rw [hide_out (by simp [ne, h1])]
      exact s _ _ h2
    priv := fun p hp => ⟨List.mem_cons_of_mem _ hp, ((Keep.same dom1 s).priv p hp).2⟩
    dom := fun a ha e => by
      rcases List.mem_cons.mp ha with rfl | ha
      · rw [ho] at e; cases e
      · exact dom1 a ha (s.free e) }
  refine lc_it w (fun i Hi => Same H1 Hi ∧ ∃ acc ri, Hi D = some (.lst acc) ∧ eachD f (ds.take i) = .ok ri ∧ RpAll K (hide Hi (D :: Ps)) acc ri ∧ acc.length ≤ i) ?_ ?_ ?_ ?_
  · exact ⟨same_upd hD, [], [], upd_same, rfl, .nil, Nat.le_refl _⟩
  · rintro i Hi hle ⟨s, acc, ri, ha, _⟩
    exact stab (D :: Ps) Hi (kp Hi s ⟨_, ha⟩).view
  · rintro i x Hi H' hlt ⟨s, acc, ri, ha, he, ra, hl⟩ y
    have k := kp Hi s ⟨_, ha⟩
    obtain ⟨s2, d, hd, rx⟩ := yl i (D :: Ps) Hi x H' hlt k.view k.dom y
    obtain ⟨o, ho⟩ := eachD_get hr hd
    obtain ⟨env', hput, rest⟩ := hf d o ho
    have k' := kp H' (s.trans s2) ⟨_, s2 _ _ ha⟩
    have rw' : EnvR K M H' (D :: Ps) (wipe σ t.slots) (wipeE env t.slots) := (re1.keep k').wipe _
    refine ht x (wipe σ t.slots) H' (D :: Ps) _ env' d _ rw' rx (put_wipe hput) fun σ2 ou r2 => ⟨by rw [wipe_same ou, wipe_wipe], ?_⟩
    obtain ⟨b, hb, h1, h2⟩ := rest σ2 H' (D :: Ps) r2
    have htake : ds.take (i + 1) = ds.take i ++ [d] := by
      rw [List.take_add_one, hd]; rfl
    refine hb H' (Same.refl _) _ fun H3 s3 => ?_
    cases b with
    | true =>
      obtain ⟨yv, rfl, hy⟩ := h1 rfl
      refine iteT (hy H3 s3 _ fun u H4 s4 ru => ?_)
      have hD4 : H4 D = some (.lst acc) := s4 _ _ (s3 _ _ (s2 _ _ ha))
      refine ⟨acc, hD4, by omega, ?_, acc ++ [u], ri ++ [yv], upd_same, ?_, ?_, ?_⟩
      · intro a oo h
        rw [upd_ne (ne_of_none h hD)]
        exact s4 _ _ (s3 _ _ (s2 _ _ (s _ _ h)))
      · rw [htake]; exact eachD_snoc ho he
      · rw [hide_upd_in (by simp)]
        exact (ra.mono (hide_mono (s2.trans (s3.trans s4)) _)).append (.cons ru.clean .nil)
      · rw [List.length_append]; simp; omega
    | false =>
      refine iteF ⟨s.trans (s2.trans s3), acc, ri, s3 _ _ (s2 _ _ ha), ?_, ra.mono (hide_mono (s2.trans s3) _), by omega⟩
      rw [htake]
      have := eachD_snoc (h2 rfl ▸ ho) he
      simpa using this
  · rintro Hn ⟨s, acc, ri, ha, he, ra, hl⟩
    rw [List.take_length, hr] at he
    cases he
    have hD0 : H0 D = none := s1.free hD
    refine q _ _ (s1.trans s) ⟨D, acc, rfl, hD0, ha, ra, ?_⟩
    have := ra.length
    omega
theorem evComp {t : Tg} {wi : TI} {tt : TT} {te : TE} {σ : St} {H : Hp} {env : En} {Ps : List Addr} {ds r : List D} {f : D → Res (Option D)} {vs : List Nat} (hvs : vs = t.slots)
    (re : EnvR K M H Ps σ env) (hi : EvI K wi σ H Ps ds) (ht : TgOk K M t (tgR K t)) (hr : eachD f ds = .ok r)
    (hf : ∀ d o, f d = .ok o → ∃ env', t.put d env = .ok env' ∧ ∀ σ' H' Ps', EnvR K M H' Ps' σ' env' → ∃ b, EvB tt σ' H' b ∧ (b = true → ∃ y, o = some y ∧ EvD K te σ' H' Ps' false y) ∧ (b = false → o = none)) :
    EvD K (tLc wi (tgR K t) tt te vs) σ H Ps false (.list r) := (evCompF hvs re hi ht hr hf).ev re.dom
end
end Tq

/-! Tq, part X: enumerate of tuples, zip of lists and tuples. -/
namespace Tq
open PySem L2 Res
theorem meets_enumerate_newB1 {v : Value} {o : Obj} {H : Heap → Prop} (B : Begins v o H) :
    Meets (Builtin.«enumerate.__new__» ⟨[.type "enumerate", v], []⟩) (fun _ R s => H s.heap ∧
      R (.ok (.ret (.ref (s.heap.push o).objs.size))) { s with heap := (s.heap.push o).push { cls := .type "enumerate", data := .fields #[.none, .bool false, .ref s.heap.objs.size, rawInt 0, .none, .none] } }) :=
  .of_wp fun prog w A R s h => by
    obtain ⟨hp, g, d, tk, os⟩ := s; obtain ⟨h1, h⟩ := h
    have hsub := sub_enumerate
    have q1 : ∀ {A' : Around} {E : Value → Shared → Prop} {Q : Value → Shared → Prop}, Q (.ref hp.objs.size) ⟨hp.push o, g, d, tk, os⟩ → wpAny (model prog w) A' (pyIter v) Q E ⟨hp, g, d, tk, os⟩ :=
      fun q => B.iter prog w _ _ ⟨hp, g, d, tk, os⟩ _ h1 q
    wp_walk using q1
    refine wpAny_stack_any fun st => wpAny_pure ?_
    split
    · rename_i c _ _ _ _ _
      cases (c == Value.type "enumerate")
      · wp_walk using q1
        exact ⟨_, rfl, h⟩
      · wp_walk using q1
        exact ⟨_, rfl, h⟩
    · wp_walk using q1
      exact ⟨_, rfl, h⟩
section
variable {prog : Program} {w : World} {A : Around} {E : Value → Shared → Prop} {s : Shared}
/-- enumerate(v): its two new cells -/
theorem enum_begins1 {v : Value} {o : Obj} {H : Heap → Prop} {Q : Value → Shared → Prop} (B : Begins v o H) (h1 : H s.heap)
    (h : ∀ h', IsEnum h' (s.heap.objs.size + 1) s.heap.objs.size 0 .none → h'.get? s.heap.objs.size = some o → h'.objs.size = s.heap.objs.size + 2 →
      (∀ b o, s.heap.get? b = some o → h'.get? b = some o) → Q (.ref (s.heap.objs.size + 1)) { s with heap := h' }) :
    wpAny (model prog w) A (call (.type "enumerate") [v]) Q E s := by
  refine callType_new F.called_enumerate (by decide) (F.typeCall_enumerate_1 _) (F.newCall_enumerate_1 _) (fun obj => F.args_object_init_2 obj _) F.entry_enumerate_new
    (meets_enumerate_newB1 B) ⟨h1, ?_⟩
  have hz : (s.heap.push o).objs.size = s.heap.objs.size + 1 := Heap.size_push ..
  show _ ∧ _
  rw [hz]
  have he : IsEnum ((s.heap.push o).push { cls := .type "enumerate", data := .fields #[.none, .bool false, .ref s.heap.objs.size, rawInt 0, .none, .none] }) (s.heap.objs.size + 1) s.heap.objs.size 0 .none := by
    have := Heap.get?_push_size (s.heap.push o) (o := { cls := .type "enumerate", data := .fields #[.none, .bool false, .ref s.heap.objs.size, rawInt 0, .none, .none] }) rfl
    rw [hz] at this; exact this
  refine ⟨⟨_, he, rfl⟩, h _ he (Heap.get?_push_of_some _ (Heap.get?_push_size _ B.free)) (by rw [Heap.size_push, hz]) fun b o x => Heap.get?_push_of_some _ (Heap.get?_push_of_some _ x)⟩
end
/-- the tuple at a, each item in a new pair -/
def IteT (K : PySem.W.Frag) (a : Addr) : It :=
  ⟨fun i H => ∃ (xs : List V) (x : V), SqT K H a xs ∧ xs[i]? = some x, fun i H v H' => ∃ T x, v = .ref T ∧ H T = none ∧ H' = upd H T (.tup [.int (i : Nat), x]) ∧ ∀ xs, SqT K H a xs → xs[i]? = some x, fun i H => ∃ xs : List V, SqT K H a xs ∧ xs.length = i⟩
theorem turn_enumT {P : Program} {w : World} {K : PySem.W.Frag} {elts : List Expr} {kk : Nat} {tpos : Pos} (a e it : Addr) :
    Turn P w K (.Tuple elts kk tpos) (IteT K a) [e, it] e (fun i h => (∃ old, IsEnum h e it ((i : Nat) : Int) old) ∧ h.IsTupleIter it a i ∧ e ≠ it) where
  mem := by simp
  obj := fun i h st b hb => by
    obtain ⟨⟨old, he⟩, ⟨o, ho, hc, hd⟩, _⟩ := st
    have e' : b = e ∨ b = it := by simpa using hb
    rcases e' with z | z
    · rw [z]; exact ⟨_, he, fun v q => nomatch q⟩
    · rw [z]; exact ⟨o, ho, fun v q => by rw [hd] at q; cases q⟩
  keep := fun i h h' st k => let ⟨⟨old, he⟩, hi, hne⟩ := st; ⟨⟨old, k e (by simp) _ he⟩, hi.at fun o q => k it (by simp) o q, hne⟩
  item := by
    intro X hP hw hK hc i pins s σ H E I hf st hg
    subst hP hw hK
    obtain ⟨⟨old, he⟩, hit, hne⟩ := st
    obtain ⟨xs, x, hq, hx⟩ := hg
    obtain ⟨its, rv, p, hz⟩ := I.tuple hq
    obtain ⟨u, hu, ru⟩ := rv.get hx
    have hel : e < s.heap.objs.size := Heap.lt_size he
    have hil : it < s.heap.objs.size := by obtain ⟨_, q, _⟩ := hit; exact Heap.lt_size q
    have nai : a ≠ it := fun z => by
      obtain ⟨o1, g1, c1, _⟩ := hit
      obtain ⟨o2, g2, c2, _⟩ := p
      rw [z, g1] at g2
      cases g2
      rw [c1] at c2
      exact absurd c2 (by decide +kernel)
    have nae : e ≠ a := fun z => by
      obtain ⟨o2, g2, c2, _⟩ := p
      rw [← z, show s.heap.get? e = _ from he] at g2
      cases g2
      exact absurd (show Value.type "enumerate" = Value.type "tuple" from c2) (by decide +kernel)
    have D := Draws.tuple (prog := X.prog) (w := X.w) (A := X.A.in1) (show X.A.in1.handled = none from I.ok.hd hc) it a nai its.toArray
    have hlt : i < its.toArray.size := by
      have := List.getElem?_eq_some_iff.mp hu
      obtain ⟨h1, _⟩ := this
      simpa using h1
    refine wpAny_pyNext_enum_itemD D he ⟨hit, p⟩ hlt hne (by simp [hne, nae]) fun x' h' tk hP ho hs' hT hsz hk => ?_
    have ex : x' = u := by
      have h1 : its.toArray[i]? = some u := by simpa using hu
      have hP : its.toArray[i]? = some x' := hP
      rw [h1] at hP; cases hP; rfl
    subst ex
    refine ⟨_, rfl, wpAny_letOwnedTupleGo_enum (s := { s with heap := h', toks := tk + 1 }) ho fun h'' he' sb => ?_⟩
    have hT2 : h''.get? s.heap.objs.size = some { cls := .type "tuple", data := .seq #[.int i tk, x'] } := (sb.2 _ (Nat.ne_of_gt hel)).trans hT
    have new : ObjOk X.prog X.w (upd H s.heap.objs.size (.tup [.int (i : Nat), x])) h'' s.heap.objs.size (.tup [.int (i : Nat), x]) :=
      ⟨by show 2 ≤ sizeLine; decide, [.int i tk, x'], .cons ⟨_, rfl⟩ (.cons ru .nil), ⟨_, hT2, rfl, _, rfl⟩⟩
    have I1 : Inv X pins σ (upd H s.heap.objs.size (.tup [.int (i : Nat), x])) { s with heap := h'', toks := tk + 1 } :=
      I.turnedNew (ch := [e, it]) (fun b ob hb q => (sb.2 b (fun z => hb (by simp [z]))).trans (hk b ob (fun z => hb (by simp [z])) (fun z => hb (by simp [z])) q)) hf (Nat.le_refl _) new
    refine ⟨.ref s.heap.objs.size, _, I1, rfl, ⟨_, x, rfl, I.hok.fresh (Nat.le_refl _), rfl, fun ys hy => by rw [I.tuple_inj hy hq]; exact hx⟩, ⟨⟨x', ?_⟩, hs'.1.at fun o q => (sb.2 it (Ne.symm hne)).trans q, hne⟩, fun b hb => ?_⟩
    · have e1 : ((i + 1 : Nat) : Int) = (i : Int) + 1 := by omega
      rw [e1]; exact he'
    · have hb' : b < s.heap.objs.size := by
        have e' : b = e ∨ b = it := by simpa using hb
        rcases e' with z | z
        · rw [z]; exact hel
        · rw [z]; exact hil
      rw [upd_ne (Nat.ne_of_lt hb')]
      exact (hf b hb).1
  done := by
    intro X hP hw hK hc i pins s σ H E I hf st hg
    subst hP hw hK
    obtain ⟨⟨old, he⟩, hit, hne⟩ := st
    obtain ⟨xs, hq, hx⟩ := hg
    obtain ⟨its, rv, p, hz⟩ := I.tuple hq
    obtain ⟨f0, f1, f2, f3, f4, f5⟩ := hf it (by simp)
    have hl := rv.length
    have nai : a ≠ it := fun z => by
      obtain ⟨o1, g1, c1, _⟩ := hit
      obtain ⟨o2, g2, c2, _⟩ := p
      rw [z, g1] at g2
      cases g2
      rw [c1] at c2
      exact absurd c2 (by decide +kernel)
    have D := Draws.tuple (prog := X.prog) (w := X.w) (A := X.A.in1) (show X.A.in1.handled = none from I.ok.hd hc) it a nai its.toArray
    have hi : i = its.toArray.size := by simp; omega
    rw [hi] at hit
    exact wpAny_pyNext_enum_endD D he ⟨hit, p⟩ fun h' eb => ⟨rfl, I.turned (t' := s.toks) (fun b o hb q => eb b o hb q) f0 f1 f3 f4 f5⟩
  self := fun A i s Q E st h => let ⟨⟨_, he⟩, _⟩ := st; wpAny_pyIter_enum he h
def iEnumT (K : PySem.W.Frag) (ta : TA) : TI := fun σ H R => ta σ H fun vs H1 => ∃ a xs, vs = [.ref a] ∧ SqT K H1 a xs ∧ R (IteT K a) H1
theorem pi_enumT {X : Cx} {e : Expr} {ta : TA} {p pos tpos : Pos} {elts : List Expr} {kk : Nat} (hg : Gl X "enumerate") (hm : X.mg "enumerate" = none) (ha : PA X [e] ta) (hs : starEach [e] X.env = [(false, eval e X.env)] := by rfl) :
    PI X (.Tuple elts kk tpos) (.Call (.Name "enumerate" p) [e] [] pos) (iEnumT X.K ta) := by
  refine ⟨fun pins s σ H R I h => ?_⟩
  refine PyProof.Rows.Call_ (ld_blt I hg hm PyProof.Rows.boot_enumerate (PyProof.Rows.callWith_type1 (thn (ha.run pos pins s σ H _ I h) fun us s1 ⟨vs, H1, I1, r1, q1⟩ => ?_) hs rfl))
  obtain ⟨a, xs, ex, hq, q⟩ := q1
  subst ex
  cases r1 with
  | cons r rr =>
    cases rr
    cases r
    obtain ⟨its, rv, p', hz⟩ := I1.tuple hq
    refine enum_begins1 (begins_tuple a its.toArray) p' fun h' he hit hsz hk => wpAny_pyIter_enum he ?_
    have I2 : Inv X pins σ H1 { s1 with heap := h' } := I1.kept (t' := s1.toks) hk
    refine ⟨s1.heap.objs.size + 1, [s1.heap.objs.size + 1, s1.heap.objs.size], _, _, H1, rfl, I2, turn_enumT a (s1.heap.objs.size + 1) s1.heap.objs.size, ⟨⟨.none, he⟩, ⟨_, hit, rfl, rfl⟩, Nat.succ_ne_self _⟩, fun b hb => ?_, q⟩
    have e' : b = s1.heap.objs.size + 1 ∨ b = s1.heap.objs.size := by simpa using hb
    have hle : s1.heap.objs.size ≤ b := by
      rcases e' with z | z
      · rw [z]; exact Nat.le_add_right _ _
      · rw [z]; exact Nat.le_refl _
    exact I1.fpOk hle (I1.hok.fresh hle)
/-! ### zip of lists and tuples in any mix -/
def SqB (t : Bool) (K : PySem.W.Frag) (H : Hp) (a : Addr) (xs : List V) : Prop := match t with
  | true => SqT K H a xs
  | false => SqL K H a xs
def ItrB (t : Bool) (h : Heap) (it a : Addr) (i : Nat) : Prop := match t with
  | true => h.IsTupleIter it a i
  | false => h.IsListIter it a i
def SeqB (t : Bool) (h : Heap) (a : Addr) (its : Array Value) : Prop := match t with
  | true => h.IsTuple a its
  | false => h.IsList a its
def itObj (t : Bool) (a : Addr) : Obj := match t with
  | true => { cls := .type "tuple_iterator", data := .fields #[.ref a, .int 0 0] }
  | false => { cls := .type "list_iterator", data := .fields #[.ref a, .int 0 0] }
theorem seqB_of {t : Bool} {X : Cx} {pins : List (Addr × Obj)} {σ : St} {H : Hp} {s : Shared} {a : Addr} {xs : List V} (I : Inv X pins σ H s) (h : SqB t X.K H a xs) :
    ∃ its : List Value, Vals xs its ∧ SeqB t s.heap a its.toArray ∧ a < s.heap.objs.size := by
  cases t with
  | true =>
    obtain ⟨its, rv, p, _⟩ := I.tuple h
    obtain ⟨o, ho, _⟩ := id p
    exact ⟨its, rv, p, Heap.lt_size ho⟩
  | false =>
    obtain ⟨its, rv, p, _⟩ := I.list h
    exact ⟨its, rv, p.isList, p.lt⟩
theorem sqB_inj {t : Bool} {X : Cx} {pins : List (Addr × Obj)} {σ : St} {H : Hp} {s : Shared} {a : Addr} {xs ys : List V} (I : Inv X pins σ H s) (h : SqB t X.K H a xs) (h' : SqB t X.K H a ys) : xs = ys := by
  cases t with
  | true => exact I.tuple_inj h h'
  | false => exact I.list_inj h h'
theorem itrB_obj {t : Bool} {h : Heap} {it a : Addr} {i : Nat} (q : ItrB t h it a i) : ∃ o, h.get? it = some o ∧ ∀ v, o.data ≠ .cell v := by
  cases t with
  | true =>
    obtain ⟨o, ho, hc, hd⟩ := q
    exact ⟨o, ho, fun v z => by rw [hd] at z; cases z⟩
  | false =>
    obtain ⟨o, ho, hc, hd⟩ := q
    exact ⟨o, ho, fun v z => by rw [hd] at z; cases z⟩
theorem itrB_at {t : Bool} {h h' : Heap} {it a : Addr} {i : Nat} (q : ItrB t h it a i) (k : ∀ o, h.get? it = some o → h'.get? it = some o) : ItrB t h' it a i := by
  cases t with
  | true => exact Heap.IsTupleIter.at q k
  | false => exact Heap.IsListIter.at q k
theorem itrB_new {t : Bool} {h : Heap} {it a : Addr} (q : h.get? it = some (itObj t a)) : ItrB t h it a 0 := by
  cases t with
  | true => exact ⟨_, q, rfl, rfl⟩
  | false => exact ⟨_, q, rfl, rfl⟩
theorem drawsB {prog : Program} {w : World} {A : Around} (t : Bool) (hh : A.handled = none) (it a : Addr) (hne : a ≠ it) (its : Array Value) :
    Draws prog w A it [it, a] its.size (fun i v => its[i]? = some v) (fun i h => ItrB t h it a i ∧ SeqB t h a its) := by
  cases t with
  | true => exact Draws.tuple hh it a hne its
  | false => exact Draws.list hh it a hne its
theorem beginsB (t : Bool) (a : Addr) (its : Array Value) : Begins (.ref a) (itObj t a) fun h => SeqB t h a its := by
  cases t with
  | true => exact begins_tuple a its
  | false => exact begins_list a its
def ItzB (t1 t2 : Bool) (K : PySem.W.Frag) (a b : Addr) : It :=
  ⟨fun i H => ∃ (xs ys : List V) (x y : V), SqB t1 K H a xs ∧ SqB t2 K H b ys ∧ xs[i]? = some x ∧ ys[i]? = some y,
    fun i H v H' => ∃ T x y, v = .ref T ∧ H T = none ∧ H' = upd H T (.tup [x, y]) ∧ (∀ xs, SqB t1 K H a xs → xs[i]? = some x) ∧ ∀ ys, SqB t2 K H b ys → ys[i]? = some y,
    fun i H => ∃ xs ys : List V, SqB t1 K H a xs ∧ SqB t2 K H b ys ∧ i ≤ xs.length ∧ i ≤ ys.length ∧ (i = xs.length ∨ i = ys.length)⟩
theorem turn_zipB {t1 t2 : Bool} {P : Program} {w : World} {K : PySem.W.Frag} {elts : List Expr} {kk : Nat} {tpos : Pos} {a b z TI TO i1 i2 : Addr} (S : ZipSep2 z TI TO i1 i2 [i1, a] [i2, b]) (n1 : a ≠ i1) (n2 : b ≠ i2) :
    Turn P w K (.Tuple elts kk tpos) (ItzB t1 t2 K a b) [z, TI, TO, i1, i2] z (fun i h => IsZip h z TI TO .none ∧ IsTupOf2 h TI (.ref i1) (.ref i2) ∧ (∃ x y, IsTupOf2 h TO x y) ∧ ItrB t1 h i1 a i ∧ ItrB t2 h i2 b i) where
  mem := by simp
  obj := fun i h st c hc => by
    obtain ⟨hz, hTI, ⟨x, y, hTO⟩, h1, h2⟩ := st
    have e' : c = z ∨ c = TI ∨ c = TO ∨ c = i1 ∨ c = i2 := by simpa using hc
    rcases e' with q | q | q | q | q
    · rw [q]; exact ⟨_, hz, fun v q => nomatch q⟩
    · rw [q]; exact ⟨_, hTI, fun v q => nomatch q⟩
    · rw [q]; exact ⟨_, hTO, fun v q => nomatch q⟩
    · rw [q]; exact itrB_obj h1
    · rw [q]; exact itrB_obj h2
  keep := fun i h h' st k => by
    obtain ⟨hz, hTI, ⟨x, y, hTO⟩, h1, h2⟩ := st
    exact ⟨k z (by simp) _ hz, k TI (by simp) _ hTI, ⟨x, y, k TO (by simp) _ hTO⟩, itrB_at h1 fun o q => k i1 (by simp) o q, itrB_at h2 fun o q => k i2 (by simp) o q⟩
  item := by
    intro X hP hw hK hc i pins s σ H E I hf st hg
    subst hP hw hK
    obtain ⟨hz, hTI, ⟨x0, y0, hTO⟩, h1, h2⟩ := st
    obtain ⟨xs, ys, x, y, hqx, hqy, hx, hy⟩ := hg
    obtain ⟨its, rv, p, _⟩ := seqB_of I hqx
    obtain ⟨its2, rv2, p2, _⟩ := seqB_of I hqy
    obtain ⟨u, hu, ru⟩ := rv.get hx
    obtain ⟨u2, hu2, ru2⟩ := rv2.get hy
    have hzl : z < s.heap.objs.size := Heap.lt_size hz
    have D1 := drawsB (prog := X.prog) (w := X.w) (A := X.A.in1) t1 (show X.A.in1.handled = none from I.ok.hd hc) i1 a n1 its.toArray
    have D2 := drawsB (prog := X.prog) (w := X.w) (A := X.A.in1) t2 (show X.A.in1.handled = none from I.ok.hd hc) i2 b n2 its2.toArray
    have l1 : i < its.toArray.size := by
      obtain ⟨q, _⟩ := List.getElem?_eq_some_iff.mp hu
      simpa using q
    have l2 : i < its2.toArray.size := by
      obtain ⟨q, _⟩ := List.getElem?_eq_some_iff.mp hu2
      simpa using q
    refine wpAny_pyNext_zipD2_item S D1 D2 hz hTI hTO ⟨h1, p⟩ ⟨h2, p2⟩ l1 l2 fun w1 w2 h' tk e1 e2 z' TO' h1' h2' hT hsz hk => ?_
    have ex1 : w1 = u := by
      have q : its.toArray[i]? = some u := by simpa using hu
      rw [q] at e1; cases e1; rfl
    have ex2 : w2 = u2 := by
      have q : its2.toArray[i]? = some u2 := by simpa using hu2
      rw [q] at e2; cases e2; rfl
    subst ex1 ex2
    refine ⟨_, rfl, wpAny_letOwnedTupleGo_zip (s := { s with heap := h', toks := tk }) z' fun h'' z'' sb => ?_⟩
    have hT2 : h''.get? s.heap.objs.size = some { cls := .type "tuple", data := .seq #[w1, w2] } := (sb.2 _ (Nat.ne_of_gt hzl)).trans hT
    have new : ObjOk X.prog X.w (upd H s.heap.objs.size (.tup [x, y])) h'' s.heap.objs.size (.tup [x, y]) :=
      ⟨by show 2 ≤ sizeLine; decide, [w1, w2], .cons ru (.cons ru2 .nil), ⟨_, hT2, rfl, _, rfl⟩⟩
    have I1 : Inv X pins σ (upd H s.heap.objs.size (.tup [x, y])) { s with heap := h'', toks := tk } :=
      I.turnedNew (ch := [z, TI, TO, i1, i2]) (fun c o hb q => (sb.2 c (fun q' => hb (by simp [q']))).trans (hk c o (fun q' => hb (by simp [q'])) (fun q' => hb (by simp [q'])) (fun q' => hb (by simp [q'])) (fun q' => hb (by simp [q'])) q)) hf (Nat.le_refl _) new
    refine ⟨.ref s.heap.objs.size, _, I1, rfl, ⟨_, x, y, rfl, I.hok.fresh (Nat.le_refl _), rfl, fun l hl => by rw [sqB_inj I hl hqx]; exact hx, fun l hl => by rw [sqB_inj I hl hqy]; exact hy⟩, ⟨z'', ?_, ⟨w1, w2, ?_⟩, ?_, ?_⟩, fun c hcm => ?_⟩
    · exact (sb.2 _ S.TIz).trans (hk _ _ S.TIz S.TITO S.TIi1 S.TIi2 hTI)
    · exact (sb.2 _ S.TOz).trans TO'
    · exact itrB_at h1'.1 fun o q => (sb.2 _ (Ne.symm S.zi1)).trans q
    · exact itrB_at h2'.1 fun o q => (sb.2 _ (Ne.symm S.zi2)).trans q
    · have hlt : c < s.heap.objs.size := by
        have e' : c = z ∨ c = TI ∨ c = TO ∨ c = i1 ∨ c = i2 := by simpa using hcm
        rcases e' with q | q | q | q | q
        · rw [q]; exact hzl
        · rw [q]; exact Heap.lt_size hTI
        · rw [q]; exact Heap.lt_size hTO
        · rw [q]; obtain ⟨_, e1, _⟩ := itrB_obj h1; exact Heap.lt_size e1
        · rw [q]; obtain ⟨_, e2, _⟩ := itrB_obj h2; exact Heap.lt_size e2
      rw [upd_ne (Nat.ne_of_lt hlt)]
      exact (hf c hcm).1
  done := by
    intro X hP hw hK hc i pins s σ H E I hf st hg
    subst hP hw hK
    obtain ⟨hz, hTI, ⟨x0, y0, hTO⟩, h1, h2⟩ := st
    obtain ⟨xs, ys, hqx, hqy, le1, le2, hend⟩ := hg
    obtain ⟨its, rv, p, _⟩ := seqB_of I hqx
    obtain ⟨its2, rv2, p2, _⟩ := seqB_of I hqy
    have l1 := rv.length
    have l2 := rv2.length
    have D1 := drawsB (prog := X.prog) (w := X.w) (A := X.A.in1) t1 (show X.A.in1.handled = none from I.ok.hd hc) i1 a n1 its.toArray
    have D2 := drawsB (prog := X.prog) (w := X.w) (A := X.A.in1) t2 (show X.A.in1.handled = none from I.ok.hd hc) i2 b n2 its2.toArray
    refine wpAny_pyNext_zipD2_end S D1 D2 hz hTI hTO ⟨h1, p⟩ ⟨h2, p2⟩ (by simp; omega) (by simp; omega) (by simp; omega) fun h' tk hk => ⟨rfl, I.turnedL (ch := [z, TI, TO, i1, i2]) (fun c o hb q =>
      hk c o (fun q' => hb (by simp [q'])) (fun q' => hb (by simp [q'])) (fun q' => hb (by simp [q'])) (fun q' => hb (by simp [q'])) q) hf⟩
  self := fun A i s Q E st h => wpAny_pyIter_zip st.1 h
def iZipB (t1 t2 : Bool) (K : PySem.W.Frag) (ta : TA) : TI := fun σ H R => ta σ H fun vs H1 => ∃ a b xs ys, vs = [.ref a, .ref b] ∧ SqB t1 K H1 a xs ∧ SqB t2 K H1 b ys ∧ R (ItzB t1 t2 K a b) H1
theorem sep_new (N a b : Nat) (ha : a < N) (hb : b < N) : ZipSep2 (N + 4) (N + 2) (N + 3) N (N + 1) [N, a] [N + 1, b] := by
  have h1 : ∀ k : Nat, N + k ≠ a := fun k => by omega
  have h2 : ∀ k : Nat, N + k ≠ b := fun k => by omega
  have h3 : N ≠ b := by omega
  constructor <;> simp [h1, h2, h3]
theorem pi_zipB (t1 t2 : Bool) {X : Cx} {e e2 : Expr} {ta : TA} {p pos tpos : Pos} {elts : List Expr} {kk : Nat} (hg : Gl X "zip") (hm : X.mg "zip" = none) (ha : PA X [e, e2] ta)
    (hs : starEach [e, e2] X.env = (false, eval e X.env) :: starEach [e2] X.env := by rfl) (hpl : (backTo pos (starEach [e2] X.env)).any (·.1) = false := by rfl) :
    PI X (.Tuple elts kk tpos) (.Call (.Name "zip" p) [e, e2] [] pos) (iZipB t1 t2 X.K ta) := by
  refine ⟨fun pins s σ H R I h => ?_⟩
  refine PyProof.Rows.Call_ (ld_blt I hg hm PyProof.Rows.boot_zip (PyProof.Rows.callWith_type1 (thn (ha.run pos pins s σ H _ I h) fun us s1 ⟨vs, H1, I1, r1, q1⟩ => ?_) hs hpl))
  obtain ⟨a, b, xs, ys, ex, hqx, hqy, q⟩ := q1
  subst ex
  cases r1 with
  | cons r rr =>
    cases rr with
    | cons r' rr =>
      cases rr
      cases r
      cases r'
      have fresh5 : ∀ c, c ∈ [s1.heap.objs.size + 4, s1.heap.objs.size + 2, s1.heap.objs.size + 3, s1.heap.objs.size, s1.heap.objs.size + 1] → FpOk X pins H1 c := fun c hcm => by
        have e' : c = s1.heap.objs.size + 4 ∨ c = s1.heap.objs.size + 2 ∨ c = s1.heap.objs.size + 3 ∨ c = s1.heap.objs.size ∨ c = s1.heap.objs.size + 1 := by simpa using hcm
        have hle : s1.heap.objs.size ≤ c := by
          rcases e' with z | z | z | z | z
          · rw [z]; exact Nat.le_add_right _ _
          · rw [z]; exact Nat.le_add_right _ _
          · rw [z]; exact Nat.le_add_right _ _
          · rw [z]; exact Nat.le_refl _
          · rw [z]; exact Nat.le_add_right _ _
        exact I1.fpOk hle (I1.hok.fresh hle)
      obtain ⟨its, rv, p1, la⟩ := seqB_of I1 hqx
      obtain ⟨its2, rv2, p2, lb⟩ := seqB_of I1 hqy
      refine zip_begins2 (beginsB t1 a its.toArray) (beginsB t2 b its2.toArray) p1 p2 fun h' hz hTI hTO h1 h2 hsz hk => wpAny_pyIter_zip hz ?_
      have I2 : Inv X pins σ H1 { s1 with heap := h' } := I1.kept (t' := s1.toks) hk
      exact ⟨s1.heap.objs.size + 4, [s1.heap.objs.size + 4, s1.heap.objs.size + 2, s1.heap.objs.size + 3, s1.heap.objs.size, s1.heap.objs.size + 1], _, _, H1, rfl, I2, turn_zipB (sep_new s1.heap.objs.size a b la lb) (Nat.ne_of_lt la) (Nat.ne_of_lt (Nat.lt_succ_of_lt lb)), ⟨hz, hTI, ⟨_, _, hTO⟩, itrB_new h1, itrB_new h2⟩, fresh5, q⟩
/-! ### what they give -/
theorem walk_enumT {K : PySem.W.Frag} {a : Addr} {xs : List V} : Walk (IteT K a) xs.length (fun H => SqT K H a xs) (YPair (fun i => some (.int (i : Nat))) (fun i => xs[i]?)) := by
  refine ⟨fun i _ hi q => ⟨xs, xs[i], q, by simp [hi]⟩, fun _ q => ⟨xs, q, rfl⟩, fun i H v H' _ q y => ?_⟩
  obtain ⟨T, x, h1, h2, h3, h4⟩ := y
  exact ⟨T, .int (i : Nat), x, h1, h2, h3, rfl, h4 xs q⟩
theorem walk_zipB {t1 t2 : Bool} {K : PySem.W.Frag} {a b : Addr} {xs ys : List V} {n : Nat} (hn : n = min xs.length ys.length) : Walk (ItzB t1 t2 K a b) n (fun H => SqB t1 K H a xs ∧ SqB t2 K H b ys) (YPair (fun i => xs[i]?) (fun i => ys[i]?)) := by
  subst hn
  refine ⟨fun i _ hi q => ?_, fun _ q => ⟨xs, ys, q.1, q.2, by omega, by omega, by omega⟩, fun i H v H' _ q y => ?_⟩
  · have h1 : i < xs.length := by omega
    have h2 : i < ys.length := by omega
    exact ⟨xs, ys, xs[i], ys[i], q.1, q.2, by simp [h1], by simp [h2]⟩
  · obtain ⟨T, x, z, h1, h2, h3, h4, h5⟩ := y
    exact ⟨T, x, z, h1, h2, h3, h4 xs q.1, h5 ys q.2⟩
theorem sqB_hide {t : Bool} {K : PySem.W.Frag} {H H' : Hp} {Ps : List Addr} {a : Addr} {xs : List V} (h : SqB t K (hide H Ps) a xs) (hs : ∀ a xs, SqL K (hide H Ps) a xs → SqL K H' a xs) (hs' : ∀ a xs, SqT K (hide H Ps) a xs → SqT K H' a xs) : SqB t K H' a xs := by
  cases t with
  | true => exact hs' a xs h
  | false => exact hs a xs h
section
variable {K : PySem.W.Frag} {σ : St} {H : Hp} {Ps : List Addr} {ta tb : TE} {d e : D} {ds es : List D}
theorem enumD_len : ∀ (ds : List D) (k : Nat), (enumD k ds).length = ds.length
  | [], _ => rfl
  | d :: ds, k => by simp [enumD, enumD_len ds]
theorem enumD_get : ∀ (ds : List D) (k i : Nat) {d : D}, ds[i]? = some d → (enumD k ds)[i]? = some (.tuple [.int ((k + i : Nat) : Int), d])
  | [], _, _, _, h => by simp at h
  | x :: ds, k, 0, d, h => by
    simp only [List.getElem?_cons_zero] at h
    cases h
    rfl
  | x :: ds, k, i + 1, d, h => by
    simp only [List.getElem?_cons_succ] at h
    have := enumD_get ds (k + 1) i h
    simp only [enumD, List.getElem?_cons_succ, this]
    congr 4
    push_cast
    omega
theorem zipD_len : ∀ (ds es : List D), (zipD ds es).length = min ds.length es.length
  | [], _ => by simp [zipD]
  | _ :: _, [] => by simp [zipD]
  | d :: ds, e :: es => by
    simp only [zipD, List.length_cons, zipD_len ds es]
    omega
theorem zipD_get : ∀ (ds es : List D) (i : Nat) {d e : D}, ds[i]? = some d → es[i]? = some e → (zipD ds es)[i]? = some (.tuple [d, e])
  | [], _, _, _, _, h, _ => by simp at h
  | _ :: _, [], _, _, _, _, h => by simp at h
  | x :: ds, y :: es, 0, d, e, h, h' => by
    simp only [List.getElem?_cons_zero] at h h'
    cases h; cases h'; rfl
  | x :: ds, y :: es, i + 1, d, e, h, h' => by
    simp only [List.getElem?_cons_succ] at h h'
    simp only [zipD, List.getElem?_cons_succ, zipD_get ds es i h h']
theorem pair_new {Ps' : List Addr} {Hi : Hp} {T : Addr} {x y : V} {d e : D} (dom : ∀ q ∈ Ps', Hi q ≠ none) (hT : Hi T = none) (rx : Rp K (hide Hi Ps') x d) (ry : Rp K (hide Hi Ps') y e) :
    Same Hi (upd Hi T (.tup [x, y])) ∧ Rp K (hide (upd Hi T (.tup [x, y])) Ps') (.ref T) (.tuple [d, e]) :=
  ⟨same_upd hT, new_tup dom hT (.cons rx (.cons ry .nil)) (by show 2 ≤ sizeLine; decide)⟩
def iEnumA (K : PySem.W.Frag) (ta : TA) : TI := fun σ H R => iEnum K ta σ H R ∨ iEnumT K ta σ H R
theorem evEnum (_dom : ∀ q ∈ Ps, H q ≠ none) (ha : EvD K ta σ H Ps false d) (hd : seqOf d = .ok ds) : EvI K (iEnumA K (tCons ta tNil)) σ H Ps (enumD 0 ds) := fun H0 s0 R q => by
  cases d with
  | list xs =>
    cases hd
    refine .inl (ha H0 s0 _ fun v H1 s1 rv => ?_)
    cases rv.clean with
    | lst h r z =>
      rename_i a vs
      refine ⟨a, vs, rfl, SqL.of (hide_le _ _ _ _ h), q _ _ s1 ⟨by rw [enumD_len]; exact z, fun H => SqL K H a vs, _, by rw [enumD_len, ← r.length]; exact walk_enum, fun Ps' H' s => SqL.of (hide_le _ _ _ _ (s _ _ h)), fun i Ps' Hi x H' hi s dom y => ?_⟩⟩
      obtain ⟨T, x0, y0, rfl, hT, rfl, h1, h2⟩ := y
      cases h1
      obtain ⟨d, g1, g2⟩ := r.get h2
      obtain ⟨p1, p2⟩ := pair_new dom hT (.int (i : Nat)) (g2.mono s)
      exact ⟨p1, _, enumD_get _ 0 i g1, by rw [Nat.zero_add]; exact p2⟩
  | tuple xs =>
    cases hd
    refine .inr (ha H0 s0 _ fun v H1 s1 rv => ?_)
    cases rv.clean with
    | tup h r z =>
      rename_i a vs
      refine ⟨a, vs, rfl, seqT (hide_le _ _) h, q _ _ s1 ⟨by rw [enumD_len]; exact z, fun H => SqT K H a vs, _, by rw [enumD_len, ← r.length]; exact walk_enumT, fun Ps' H' s => seqT (hide_le _ _) (seqT s h), fun i Ps' Hi x H' hi s dom y => ?_⟩⟩
      obtain ⟨T, x0, y0, rfl, hT, rfl, h1, h2⟩ := y
      cases h1
      obtain ⟨d, g1, g2⟩ := r.get h2
      obtain ⟨p1, p2⟩ := pair_new dom hT (.int (i : Nat)) (g2.mono s)
      exact ⟨p1, _, enumD_get _ 0 i g1, by rw [Nat.zero_add]; exact p2⟩
  | _ => cases hd
def isT : D → Bool
  | .tuple _ => true
  | _ => false
/-- a value that is a list or a tuple -/
theorem seq_val {v : V} {us : List D} {t : Bool} (rv : RL K H Ps false v d) (hd : seqOf d = .ok us) (ht : isT d = t) : ∃ (a : Addr) (xs : List V), v = .ref a ∧ RpAll K (hide H Ps) xs us ∧ us.length ≤ sizeLine ∧ ∀ Ps' H', Same (hide H Ps) (hide H' Ps') → SqB t K H' a xs := by
  subst ht
  cases d with
  | list xs =>
    cases hd
    cases rv.clean with
    | lst h r z => exact ⟨_, _, rfl, r, z, fun Ps' H' s => SqL.of (hide_le _ _ _ _ (s _ _ h))⟩
  | tuple xs =>
    cases hd
    cases rv.clean with
    | tup h r z => exact ⟨_, _, rfl, r, z, fun Ps' H' s => seqT (hide_le _ _) (seqT s h)⟩
  | _ => cases hd
def iZipAll (K : PySem.W.Frag) (ta : TA) : TI := fun σ H R => (iZipB true true K ta σ H R ∨ iZipB true false K ta σ H R) ∨ (iZipB false true K ta σ H R ∨ iZipB false false K ta σ H R)
theorem iter_zip {t1 t2 : Bool} {a b : Addr} {xs ys : List V} {us ws : List D} {H1 H2 : Hp} (s12 : Same H1 H2) (r1 : RpAll K (hide H1 Ps) xs us) (z1 : us.length ≤ sizeLine) (q1 : ∀ Ps' H', Same (hide H1 Ps) (hide H' Ps') → SqB t1 K H' a xs)
    (r2 : RpAll K (hide H2 Ps) ys ws) (q2 : ∀ Ps' H', Same (hide H2 Ps) (hide H' Ps') → SqB t2 K H' b ys) : IterOk K (ItzB t1 t2 K a b) H2 Ps (zipD us ws) := by
  have h12 := hide_mono s12 Ps
  refine ⟨by rw [zipD_len]; omega, fun H => SqB t1 K H a xs ∧ SqB t2 K H b ys, _, by rw [zipD_len, ← r1.length, ← r2.length]; exact walk_zipB rfl, fun Ps' H' s => ⟨q1 Ps' H' (h12.trans s), q2 Ps' H' s⟩, fun i Ps' Hi x H' hi s dom y => ?_⟩
  obtain ⟨T, x0, y0, rfl, hT, rfl, g1, g2⟩ := y
  obtain ⟨d1, e1, p1⟩ := r1.get g1
  obtain ⟨d2, e2, p2⟩ := r2.get g2
  obtain ⟨o1, o2⟩ := pair_new dom hT (p1.mono (h12.trans s)) (p2.mono s)
  exact ⟨o1, _, zipD_get _ _ i e1 e2, o2⟩
theorem evZip {us ws : List D} (_dom : ∀ q ∈ Ps, H q ≠ none) (ha : EvD K ta σ H Ps false d) (hb : EvD K tb σ H Ps false e) (hd : seqOf d = .ok us) (he : seqOf e = .ok ws) : EvI K (iZipAll K (tCons ta (tCons tb tNil))) σ H Ps (zipD us ws) := fun H0 s0 R q => by
  have go : ∀ t1 t2 : Bool, isT d = t1 → isT e = t2 → iZipB t1 t2 K (tCons ta (tCons tb tNil)) σ H0 R := fun t1 t2 h1 h2 => by
    refine ha H0 s0 _ fun v H1 s1 rv => hb H1 (s0.trans s1) _ fun w H2 s2 rw => ?_
    obtain ⟨a, xs, rfl, r1, z1, q1⟩ := seq_val rv hd h1
    obtain ⟨b, ys, rfl, r2, z2, q2⟩ := seq_val rw he h2
    exact ⟨a, b, xs, ys, rfl, q1 Ps H2 (hide_mono s2 _), q2 Ps H2 (Same.refl _), q _ _ (s1.trans s2) (iter_zip s2 r1 z1 q1 r2 q2)⟩
  cases h1 : isT d <;> cases h2 : isT e
  · exact .inr (.inr (go _ _ h1 h2))
  · exact .inr (.inl (go _ _ h1 h2))
  · exact .inl (.inr (go _ _ h1 h2))
  · exact .inl (.inl (go _ _ h1 h2))
end
end Tq

/-! Tq, part J: every expression that the text holds runs as its image does. -/
namespace Tq
open PySem L2 Res
section
variable (k : Nat) (defs : Nat → Option FDef) (K : PySem.W.Frag)
def OkE (S : Sx) (ie : IE) (e : Expr) : Prop := ∃ t, (∀ X, Gd S k defs K X → PE X e t) ∧ ∀ σ H env Ps d, EnvR K S.M H Ps σ env → evalE (callF defs k) ie env = .ok d → EvD K t σ H Ps (lv S.M ie) d
def OkB (S : Sx) (ie : IE) (e : Expr) : Prop := ∃ t, (∀ X, Gd S k defs K X → PT X e t) ∧ ∀ σ H env Ps b, EnvR K S.M H Ps σ env → (evalE (callF defs k) ie env).bind truth = .ok b → EvB t σ H b
def OkA (S : Sx) (as : IEs) (es : List Expr) : Prop := ∃ t, (∀ X, Gd S k defs K X → PA X es t) ∧ ∀ σ H env Ps ds, EnvR K S.M H Ps σ env → evalEs (callF defs k) as env = .ok ds → EvA K t σ H Ps ds
def OkI (S : Sx) (it : IT) (tg e : Expr) : Prop := ∃ wi, (∀ X, Gd S k defs K X → PI X tg e wi) ∧ ∀ σ H env Ps ds, EnvR K S.M H Ps σ env → evalIT (callF defs k) it env = .ok ds → EvI K wi σ H Ps ds
end
section
variable {k : Nat} {defs : Nat → Option FDef} {K : PySem.W.Frag} {S : Sx}
theorem okB_of {ie : IE} {e : Expr} (h : OkE k defs K S ie e) (p : plainTest e = true) : OkB k defs K S ie e := by
  obtain ⟨t, h1, h2⟩ := h
  refine ⟨fun σ H Q => t σ H fun x H' => ∃ c, TruV K x H' c ∧ Q c H', fun X g => ?_, fun σ H env Ps b r e => ?_⟩
  · have := g.hK
    subst this
    exact pt_truth (h1 X g) fun whole => test_plain p whole
  · obtain ⟨d, e1, e2⟩ := bind_split e
    exact evT r.dom (h2 σ H env Ps d r e1) e2
theorem okE_var {i : Nat} {e : Expr} (h : chkE S (.var i) e = true) : OkE k defs K S (.var i) e := by
  cases e with
  | Name x p =>
    have h : visB S i x = true := by simpa [chkE] using h
    refine ⟨tVar i, fun X g => ?_, fun σ H env Ps d r e => ?_⟩
    · obtain ⟨a, b, c, d⟩ := g.vis h
      exact pe_var a b c d
    · simp only [evalE] at e
      cases q : env[i]? with
      | none => rw [q] at e; cases e
      | some o =>
        rw [q] at e
        cases o with
        | none => cases e
        | some x =>
          cases e
          intro H0 s0 Q qq
          obtain ⟨v, h1, h2, _⟩ := (r.same s0).get i _ q
          exact ⟨v, h1, qq v H0 (Same.refl _) h2⟩
  | _ => simp [chkE] at h
theorem okE_c {ie : IE} {e : Expr} {v : V} {d : D} (hl : lv S.M ie = false) (hp : ∀ X, PE X e (tC v)) (he : ∀ env, evalE (callF defs k) ie env = .ok d) (hr : ∀ H, Rp K H v d) : OkE k defs K S ie e :=
  ⟨tC v, fun X _ => hp X, fun σ H env Ps d' r e => by
    rw [he env] at e; cases e
    exact fun H0 s0 Q q => q v H0 (Same.refl _) (.of (hr _))⟩
theorem okE_o2 {op : Op2} {a b : IE} {e x y : Expr} (ha : OkE k defs K S a x) (hb : OkE k defs K S b y) (h : sh2 S op e = some (x, y)) : OkE k defs K S (.o2 op a b) e := by
  obtain ⟨ta, a1, a2⟩ := ha
  obtain ⟨tb, b1, b2⟩ := hb
  obtain ⟨t, t1, t2⟩ := sem2_ok (k := k) (defs := defs) (K := K) (ta := ta) (tb := tb) h
  refine ⟨t, fun X g => t1 X g (a1 X g) (b1 X g), fun σ H env Ps d r e => ?_⟩
  simp only [evalE] at e
  obtain ⟨u, e1, e⟩ := bind_split e
  obtain ⟨w, e2, e⟩ := bind_split e
  exact t2 σ H Ps _ _ u w d r.dom (a2 σ H env Ps u r e1) (b2 σ H env Ps w r e2) e
theorem okE_o1 {op : Op1} {a : IE} {e x : Expr} (ha : OkE k defs K S a x) (h : sh1 S op e = some x) : OkE k defs K S (.o1 op a) e := by
  obtain ⟨ta, a1, a2⟩ := ha
  obtain ⟨t, t1, t2⟩ := sem1_ok (k := k) (defs := defs) (K := K) (ta := ta) h
  refine ⟨t, fun X g => t1 X g (a1 X g), fun σ H env Ps d r e => ?_⟩
  simp only [evalE] at e
  obtain ⟨u, e1, e⟩ := bind_split e
  exact t2 σ H Ps _ u d r.dom (a2 σ H env Ps u r e1) e
theorem okE_isi {ty : Ty} {a : IE} {e x : Expr} (ha : OkE k defs K S a x) (h : isiAll S ty e = some x) : OkE k defs K S (.isi a ty) e := by
  obtain ⟨ta, a1, a2⟩ := ha
  obtain ⟨t, t1, t2⟩ := Sem1.isiA (k := k) (defs := defs) (K := K) (ta := ta) h
  refine ⟨t, fun X g => t1 X g (a1 X g), fun σ H env Ps d r e => ?_⟩
  simp only [evalE] at e
  obtain ⟨u, e1, e⟩ := bind_split e
  exact t2 σ H Ps _ u d r.dom (a2 σ H env Ps u r e1) e
theorem okB_cmp {op : Op2} {a b : IE} {e x y : Expr} (ha : OkE k defs K S a x) (hb : OkE k defs K S b y) (h : cmpE op e = some (x, y)) : OkB k defs K S (.o2 op a b) e := by
  obtain ⟨ta, a1, a2⟩ := ha
  obtain ⟨tb, b1, b2⟩ := hb
  obtain ⟨c, p, rfl, h1, h2⟩ := cmpE_ok h
  obtain ⟨r, ho, hr⟩ := cmp_ok (S := S) (k := k) (defs := defs) (K := K) h1
  refine ⟨tTest (tOp r ta tb), fun X g => pt_cmpR (ho X g) (a1 X g) (b1 X g) (mark_plain h2), fun σ H env Ps bb re e => ?_⟩
  obtain ⟨z, e, et⟩ := bind_split e
  simp only [evalE] at e
  obtain ⟨u, e1, e⟩ := bind_split e
  obtain ⟨w, e2, e⟩ := bind_split e
  obtain ⟨t, rfl⟩ := cmp_bool h1 e
  cases et
  exact evTest (ev2 re.dom hr (a2 σ H env Ps u re e1) (b2 σ H env Ps w re e2) e)
theorem evChain {r r' : R2} {ta tb tc : TE} {op op' : Op2} {σ : St} {H : Hp} {Ps : List Addr} {b b' b'' : Bool} {d e f x : D} {t : Bool} (dom : ∀ q ∈ Ps, H q ≠ none) (hr : R2ok K (op2 op) r) (hr' : R2ok K (op2 op') r')
    (ha : EvD K ta σ H Ps b d) (hb : EvD K tb σ H Ps b' e) (h1 : op2 op d e = .ok (.bool t)) (hc : t = true → EvD K tc σ H Ps b'' f ∧ op2 op' e f = .ok x) (hn : t = false → x = .bool false) : EvD K (tChain r r' ta tb tc) σ H Ps false x := fun H0 s0 Q q =>
  ha H0 s0 _ fun v H1 s1 rv => hb H1 (s0.trans s1) _ fun w H2 s2 rw => hr v w H2 Ps d e _ b b' _ (dom_same dom ((s0.trans s1).trans s2)) (rv.same (dom_same dom (s0.trans s1)) s2) rw h1 fun u H3 s3 ru => by
    cases ru
    refine ⟨t, rfl, ?_⟩
    cases t with
    | true =>
      obtain ⟨c1, c2⟩ := hc rfl
      refine iteT (c1 H3 (((s0.trans s1).trans s2).trans s3) _ fun w' H4 s4 rw' => ?_)
      have d2 := dom_same dom ((s0.trans s1).trans s2)
      exact hr' w w' H4 Ps e f x b' b'' Q (dom_same d2 (s3.trans s4)) (rw.same d2 (s3.trans s4)) rw' c2 fun u H5 s5 ru => q u H5 ((((s1.trans s2).trans s3).trans s4).trans s5) (.of ru)
    | false =>
      refine iteF (q _ H3 ((s1.trans s2).trans s3) ?_)
      rw [hn rfl]
      exact .of (.bl _)
theorem lastMarks_of {o p : CmpOp} {y z : Expr} (h : noSet z = true) : lastMarks [o, p] [y, z] = false := mark_plain h
theorem chain_eval {ρ : Nat → List D → Res D} {o p : Op2} {a b c : IE} {env : En} {z : D} {o' : CmpOp} (ho : cmpOf o = some o') (e : evalE ρ (.chain o p a b c) env = .ok z) : ∃ u w t, evalE ρ a env = .ok u ∧ evalE ρ b env = .ok w ∧ op2 o u w = .ok (.bool t) ∧ (t = true → ∃ f, evalE ρ c env = .ok f ∧ op2 p w f = .ok z) ∧ (t = false → z = .bool false) := by
  simp only [evalE] at e
  obtain ⟨u, e1, e⟩ := bind_split e
  obtain ⟨w, e2, e⟩ := bind_split e
  obtain ⟨q, e3, e⟩ := bind_split e
  obtain ⟨t, rfl⟩ := cmp_bool ho e3
  refine ⟨u, w, t, e1, e2, e3, fun ht => ?_, fun ht => ?_⟩
  · subst ht
    obtain ⟨f, e4, e5⟩ := bind_split e
    exact ⟨f, e4, e5⟩
  · subst ht
    cases e; rfl
theorem okE_chain {o p : Op2} {a b c : IE} {x y z : Expr} {o' p' : CmpOp} {pos : Pos} (ha : OkE k defs K S a x) (hb : OkE k defs K S b y) (hc : OkE k defs K S c z) (h1 : cmpOf o = some o') (h2 : cmpOf p = some p') (hz : noSet z = true) :
    OkE k defs K S (.chain o p a b c) (.Compare x [o', p'] [y, z] pos) ∧ OkB k defs K S (.chain o p a b c) (.Compare x [o', p'] [y, z] pos) := by
  obtain ⟨ta, a1, a2⟩ := ha
  obtain ⟨tb, b1, b2⟩ := hb
  obtain ⟨tc, c1, c2⟩ := hc
  obtain ⟨r, ho, hr⟩ := cmp_ok (S := S) (k := k) (defs := defs) (K := K) h1
  obtain ⟨r', ho', hr'⟩ := cmp_ok (S := S) (k := k) (defs := defs) (K := K) h2
  have ev : ∀ σ H env Ps d, EnvR K S.M H Ps σ env → evalE (callF defs k) (.chain o p a b c) env = .ok d → EvD K (tChain r r' ta tb tc) σ H Ps false d := fun σ H env Ps d re e => by
    obtain ⟨u, w, t, e1, e2, e3, e4, e5⟩ := chain_eval h1 e
    cases t with
    | true =>
      obtain ⟨f, f1, f2⟩ := e4 rfl
      exact evChain re.dom hr hr' (a2 σ H env Ps u re e1) (b2 σ H env Ps w re e2) e3 (fun _ => ⟨c2 σ H env Ps f re f1, f2⟩) (fun h => nomatch h)
    | false => exact evChain (f := .none) (b'' := false) re.dom hr hr' (a2 σ H env Ps u re e1) (b2 σ H env Ps w re e2) e3 (fun h => nomatch h) (fun _ => e5 rfl)
  refine ⟨⟨tChain r r' ta tb tc, fun X g => pe_chain (ho X g) (ho' X g) (a1 X g) (b1 X g) (c1 X g) (lastMarks_of hz), ev⟩, ⟨tTest (tChain r r' ta tb tc), fun X g => pt_chain (ho X g) (ho' X g) (a1 X g) (b1 X g) (c1 X g) (lastMarks_of hz), fun σ H env Ps bb re e => ?_⟩⟩
  obtain ⟨zz, e, et⟩ := bind_split e
  have := ev σ H env Ps zz re e
  obtain ⟨u, w, t, e1, e2, e3, e4, e5⟩ := chain_eval h1 e
  have hb : ∃ t, zz = .bool t := by
    cases t with
    | true => obtain ⟨f, f1, f2⟩ := e4 rfl; exact cmp_bool h2 f2
    | false => exact ⟨_, e5 rfl⟩
  obtain ⟨t', rfl⟩ := hb
  cases et
  exact evTest this
theorem okE_call {f : Nat} {es : IEs} {x : Expr} {xs : List Expr} {n : Str} {p q : Pos} {ar : Nat} (hA : OkA k defs K S es (x :: xs)) (hf : S.fnm f = some (n, ar)) (hlen : (x :: xs).length = ar) (hd : (n == ("__debug__" : Str)) = false) (hg : glB S n = true) (hc : chkEs S es (x :: xs) = true) :
    OkE k defs K S (.call f es) (.Call (.Name n p) (x :: xs) [] q) := by
  obtain ⟨t, t1, t2⟩ := hA
  refine ⟨tCallS (spF K ar (callF defs k f)) (WE (fun _ _ _ _ => False)) t, fun X g => ?_, fun σ H env Ps d r e => ?_⟩
  · obtain ⟨a, fd, ps, m1, m2, m3, F⟩ := g.fns f n ar hf
    have := g.hK
    subst this
    cases es with
    | nil => simp [chkEs] at hc
    | cons a as =>
      have hc' := hc
      simp only [chkEs, Bool.and_eq_true] at hc'
      exact pe_callS F g.room (g.gl hg) m1 m2 m3 (fun σ => passAt takes0 σ) (t1 X g) hd (star1 hc'.1.1.1) (starsAny hc'.2)
  · simp only [evalE] at e
    obtain ⟨ds, e1, e⟩ := bind_split e
    intro H0 s0 Q qq
    refine t2 σ H env Ps ds r e1 H0 s0 _ fun vs H1 s1 rv => ⟨?_, ds, Ps, d, rv, dom_same r.dom (s0.trans s1), e, fun v H2 s2 rv2 => qq v H2 (s1.trans s2) (.of rv2)⟩
    rw [rv.length, evalEs_len hc e1, hlen]
theorem okE_and {a b : IE} {e x y : Expr} (ha : OkE k defs K S a x) (hb : OkE k defs K S b y) (h : andE .And e = some (x, y)) (la : lv S.M a = false) (lb : lv S.M b = false) : OkE k defs K S (.and_ a b) e := by
  obtain ⟨ta, a1, a2⟩ := ha
  obtain ⟨tb, b1, b2⟩ := hb
  obtain ⟨c, rest, p, rfl, rfl⟩ := andE_ok h
  refine ⟨tAndT K ta tb, fun X g => ?_, fun σ H env Ps d r e => ?_⟩
  · have := g.hK
    subst this
    exact pe_andT (a1 X g) (pe_rest (b1 X g))
  · simp only [evalE] at e
    obtain ⟨u, e1, e⟩ := bind_split e
    obtain ⟨t, e2, e⟩ := bind_split e
    intro H0 s0 Q qq
    refine a2 σ H env Ps u r e1 H0 s0 _ fun v H1 s1 rv => ⟨t, tru_of rv e2, ?_⟩
    rw [la] at rv
    cases t with
    | true =>
      refine iteT ?_
      have := b2 σ H env Ps d r e
      rw [lb] at this
      exact this H1 (s0.trans s1) Q fun w H2 s2 rw => qq w H2 (s1.trans s2) rw
    | false =>
      cases e
      exact iteF (qq v H1 s1 rv)
theorem okE_or {a b : IE} {e x y : Expr} (ha : OkE k defs K S a x) (hb : OkE k defs K S b y) (h : andE .Or e = some (x, y)) (la : lv S.M a = false) (lb : lv S.M b = false) : OkE k defs K S (.or_ a b) e := by
  obtain ⟨ta, a1, a2⟩ := ha
  obtain ⟨tb, b1, b2⟩ := hb
  obtain ⟨c, rest, p, rfl, rfl⟩ := andE_ok h
  refine ⟨tOrT K ta tb, fun X g => ?_, fun σ H env Ps d r e => ?_⟩
  · have := g.hK
    subst this
    exact pe_orT (a1 X g) (pe_rest (b1 X g))
  · simp only [evalE] at e
    obtain ⟨u, e1, e⟩ := bind_split e
    obtain ⟨t, e2, e⟩ := bind_split e
    intro H0 s0 Q qq
    refine a2 σ H env Ps u r e1 H0 s0 _ fun v H1 s1 rv => ⟨t, tru_of rv e2, ?_⟩
    rw [la] at rv
    cases t with
    | true =>
      cases e
      exact iteT (qq v H1 s1 rv)
    | false =>
      refine iteF ?_
      have := b2 σ H env Ps d r e
      rw [lb] at this
      exact this H1 (s0.trans s1) Q fun w H2 s2 rw => qq w H2 (s1.trans s2) rw
theorem okB_and {a b : IE} {e x y : Expr} (ha : OkB k defs K S a x) (hb : OkB k defs K S b y) (h : andE .And e = some (x, y)) : OkB k defs K S (.and_ a b) e := by
  obtain ⟨ta, a1, a2⟩ := ha
  obtain ⟨tb, b1, b2⟩ := hb
  obtain ⟨c, rest, p, rfl, rfl⟩ := andE_ok h
  refine ⟨tAnd ta tb, fun X g => (pw_and (a1 X g) (pw_rest (b1 X g))).pt, fun σ H env Ps bb r e => ?_⟩
  obtain ⟨z, e, et⟩ := bind_split e
  simp only [evalE] at e
  obtain ⟨u, e1, e⟩ := bind_split e
  obtain ⟨t, e2, e⟩ := bind_split e
  intro H0 s0 Q qq
  refine a2 σ H env Ps t r (by rw [e1]; exact e2) H0 s0 _ fun H1 s1 => ?_
  cases t with
  | true =>
    refine iteT (b2 σ H env Ps bb r ?_ H1 (s0.trans s1) Q fun H2 s2 => qq H2 (s1.trans s2))
    have e : evalE (callF defs k) b env = .ok z := e
    rw [e]; exact et
  | false =>
    cases e
    rw [e2] at et
    cases et
    exact iteF (qq H1 s1)
theorem okB_or {a b : IE} {e x y : Expr} (ha : OkB k defs K S a x) (hb : OkB k defs K S b y) (h : andE .Or e = some (x, y)) : OkB k defs K S (.or_ a b) e := by
  obtain ⟨ta, a1, a2⟩ := ha
  obtain ⟨tb, b1, b2⟩ := hb
  obtain ⟨c, rest, p, rfl, rfl⟩ := andE_ok h
  refine ⟨tOr ta tb, fun X g => (pw_or (a1 X g) (pw_rest (b1 X g))).pt, fun σ H env Ps bb r e => ?_⟩
  obtain ⟨z, e, et⟩ := bind_split e
  simp only [evalE] at e
  obtain ⟨u, e1, e⟩ := bind_split e
  obtain ⟨t, e2, e⟩ := bind_split e
  intro H0 s0 Q qq
  refine a2 σ H env Ps t r (by rw [e1]; exact e2) H0 s0 _ fun H1 s1 => ?_
  cases t with
  | true =>
    cases e
    rw [e2] at et
    cases et
    exact iteT (qq H1 s1)
  | false =>
    refine iteF (b2 σ H env Ps bb r ?_ H1 (s0.trans s1) Q fun H2 s2 => qq H2 (s1.trans s2))
    have e : evalE (callF defs k) b env = .ok z := e
    rw [e]; exact et
theorem okB_not {a : IE} {x : Expr} {p : Pos} (ha : OkB k defs K S a x) : OkB k defs K S (.o1 .not a) (.UnaryOp .Not x p) := by
  obtain ⟨ta, a1, a2⟩ := ha
  refine ⟨tNot ta, fun X g => pt_not (a1 X g), fun σ H env Ps bb r e => ?_⟩
  obtain ⟨z, e, et⟩ := bind_split e
  simp only [evalE] at e
  obtain ⟨u, e1, e⟩ := bind_split e
  obtain ⟨t, e2, e⟩ := bind_split (show (truth u).bind (fun b => Res.ok (PyData.bool (!b))) = .ok z from e)
  cases e
  cases et
  intro H0 s0 Q qq
  exact a2 σ H env Ps t r (by rw [e1]; exact e2) H0 s0 _ fun H1 s1 => qq H1 s1
theorem okE_if {c a b : IE} {x y z : Expr} {p : Pos} (hc : OkB k defs K S c x) (ha : OkE k defs K S a y) (hb : OkE k defs K S b z) (la : lv S.M a = false) (lb : lv S.M b = false) : OkE k defs K S (.ifE c a b) (.IfExp x y z p) := by
  obtain ⟨tc, c1, c2⟩ := hc
  obtain ⟨ta, a1, a2⟩ := ha
  obtain ⟨tb, b1, b2⟩ := hb
  refine ⟨tIf tc ta tb, fun X g => pe_ifExp (c1 X g) (a1 X g) (b1 X g), fun σ H env Ps d r e => ?_⟩
  simp only [evalE] at e
  obtain ⟨u, e1, e⟩ := bind_split e
  obtain ⟨t, e2, e⟩ := bind_split e
  intro H0 s0 Q qq
  refine c2 σ H env Ps t r (by rw [e1]; exact e2) H0 s0 _ fun H1 s1 => ?_
  cases t with
  | true =>
    refine iteT ?_
    have := a2 σ H env Ps d r e
    rw [la] at this
    exact this H1 (s0.trans s1) Q fun w H2 s2 rw => qq w H2 (s1.trans s2) rw
  | false =>
    refine iteF ?_
    have := b2 σ H env Ps d r e
    rw [lb] at this
    exact this H1 (s0.trans s1) Q fun w H2 s2 rw => qq w H2 (s1.trans s2) rw
theorem okA_nil : OkA k defs K S .nil [] := ⟨tNil, fun X _ => pa_nil, fun σ H env Ps ds r e H0 s0 Q q => by
  simp only [evalEs] at e; cases e
  exact q [] H0 (Same.refl _) .nil⟩
theorem okA_cons {a : IE} {as : IEs} {e : Expr} {es : List Expr} (ha : OkE k defs K S a e) (hs : OkA k defs K S as es) (st : noStar e = true) (la : lv S.M a = false) : OkA k defs K S (.cons a as) (e :: es) := by
  obtain ⟨ta, a1, a2⟩ := ha
  obtain ⟨tb, b1, b2⟩ := hs
  refine ⟨tCons ta tb, fun X g => pa_cons (a1 X g) (b1 X g) (star1 st), fun σ H env Ps ds r e H0 s0 Q q => ?_⟩
  simp only [evalEs] at e
  obtain ⟨u, e1, e⟩ := bind_split e
  obtain ⟨us, e2, e⟩ := bind_split e
  cases e
  have := a2 σ H env Ps u r e1
  rw [la] at this
  refine this H0 s0 _ fun v H1 s1 rv => b2 σ H env Ps us r e2 H1 (s0.trans s1) _ fun vs H2 s2 rvs => q _ H2 (s1.trans s2) (.cons (rv.clean.mono (hide_mono s2 _)) rvs)
theorem okE_tup {es : IEs} {xs : List Expr} {kk : Nat} {p : Pos} (h : OkA k defs K S es xs) (hc : chkEs S es xs = true) (hl : xs.length ≤ 1000) : OkE k defs K S (.tup es) (.Tuple xs kk p) := by
  obtain ⟨t, t1, t2⟩ := h
  refine ⟨tTup t, fun X g => pe_tup (t1 X g), fun σ H env Ps d r e H0 s0 Q q => ?_⟩
  simp only [evalE] at e
  obtain ⟨ds, e1, e⟩ := bind_split e
  cases e
  refine t2 σ H env Ps ds r e1 H0 s0 _ fun vs H1 s1 rv => ?_
  have z : ds.length ≤ sizeLine := by rw [evalEs_len hc e1]; exact Nat.le_of_lt (small1000 hl)
  refine ⟨by rw [rv.length]; exact z, fun p hp => q _ _ (s1.trans (same_upd hp)) (.of (new_tup (dom_same r.dom (s0.trans s1)) hp rv z))⟩
theorem okE_lst {es : IEs} {xs : List Expr} {p : Pos} (h : OkA k defs K S es xs) (hc : chkEs S es xs = true) (hl : xs.length ≤ 1000) : OkE k defs K S (.lst es) (.List xs p) := by
  obtain ⟨t, t1, t2⟩ := h
  refine ⟨tLst t, fun X g => pe_lst (t1 X g), fun σ H env Ps d r e H0 s0 Q q => ?_⟩
  simp only [evalE] at e
  obtain ⟨ds, e1, e⟩ := bind_split e
  cases e
  refine t2 σ H env Ps ds r e1 H0 s0 _ fun vs H1 s1 rv => ?_
  have z : ds.length ≤ sizeLine := by rw [evalEs_len hc e1]; exact Nat.le_of_lt (small1000 hl)
  refine ⟨by rw [rv.length]; exact z, fun p hp => q _ _ (s1.trans (same_upd hp)) (.of (new_lst (dom_same r.dom (s0.trans s1)) hp rv z))⟩
/-! ### what is walked -/
theorem okI_seq {a : IE} {tg e : Expr} (ha : OkE k defs K S a e) (la : lv S.M a = false) : OkI k defs K S (.seq a) tg e := by
  obtain ⟨t, t1, t2⟩ := ha
  refine ⟨iSeq K t, fun X g => ?_, fun σ H env Ps ds r e => ?_⟩
  · have := g.hK
    subst this
    exact pi_seq (t1 X g)
  · simp only [evalIT] at e
    obtain ⟨u, e1, e⟩ := bind_split e
    have := t2 σ H env Ps u r e1
    rw [la] at this
    exact evSeq this e
theorem okI_rng1 {a : IE} {tg e x : Expr} (ha : OkE k defs K S a x) (h : rng1E S e = some x) : OkI k defs K S (.rng1 a) tg e := by
  obtain ⟨t, t1, t2⟩ := ha
  obtain ⟨p, q, rfl, h1, h2⟩ := bcall_ok (show bcall S "range" e = some x from h)
  refine ⟨iRng1 (tCons t tNil), fun X g => pi_range1 (g.gl h1) (g.free _ (by decide +kernel)) (pa_cons (t1 X g) pa_nil (star1 h2)) (star1 h2), fun σ H env Ps ds r e => ?_⟩
  simp only [evalIT] at e
  obtain ⟨u, e1, e⟩ := bind_split e
  cases u with
  | int n =>
    have e : (if decide (-(2 ^ 62) ≤ n ∧ n ≤ (sizeLine : Int)) = true then Res.ok (rangeD 0 n.toNat) else .bad) = .ok ds := e
    split at e
    · rename_i hz
      cases e
      have hz := of_decide_eq_true hz
      exact evRng1 (t2 σ H env Ps _ r e1) hz.1 hz.2
    · cases e
  | _ => cases e
theorem okI_rng2 {a b : IE} {tg e x y : Expr} (ha : OkE k defs K S a x) (hb : OkE k defs K S b y) (h : rng2E S e = some (x, y)) : OkI k defs K S (.rng2 a b) tg e := by
  obtain ⟨ta, a1, a2⟩ := ha
  obtain ⟨tb, b1, b2⟩ := hb
  unfold rng2E at h
  split at h
  · split at h
    · rename_i hc
      cases h
      obtain ⟨rfl, g1, g2, g3⟩ := hc
      refine ⟨iRng2 (tCons ta (tCons tb tNil)), fun X g => pi_range2 (g.gl g1) (g.free _ (by decide +kernel)) (pa_cons (a1 X g) (pa_cons (b1 X g) pa_nil (star1 g3)) (star1 g2)) (by rw [star1 g2, star1 g3]; rfl) (star1 g3), fun σ H env Ps ds r e => ?_⟩
      simp only [evalIT] at e
      obtain ⟨u, e1, e⟩ := bind_split e
      obtain ⟨w, e2, e⟩ := bind_split e
      cases u with
      | int i =>
        cases w with
        | int j =>
          have e : (if decide (-(2 ^ 62) ≤ i ∧ i < 2 ^ 62 ∧ -(2 ^ 62) ≤ j ∧ j < 2 ^ 62 ∧ j - i ≤ (sizeLine : Int)) = true then Res.ok (rangeD i (j - i).toNat) else .bad) = .ok ds := e
          split at e
          · rename_i hz
            cases e
            have hz := of_decide_eq_true hz
            exact evRng2 (a2 σ H env Ps _ r e1) (b2 σ H env Ps _ r e2) ⟨hz.1, hz.2.1, hz.2.2.1, hz.2.2.2.1⟩ hz.2.2.2.2
          · cases e
        | _ => cases e
      | _ => cases e
    · cases h
  · cases h
/-! ### enumerate, zip -/
theorem isTupE_ok {e : Expr} (h : isTupE e = true) : ∃ es k p, e = .Tuple es k p := by
  cases e <;> first | (cases h; done) | exact ⟨_, _, _, rfl⟩
theorem okI_enum {a : IE} {tg e x : Expr} (ha : OkE k defs K S a x) (h : bcall S "enumerate" e = some x) (ht : isTupE tg = true) (la : lv S.M a = false) : OkI k defs K S (.enum a) tg e := by
  obtain ⟨t, t1, t2⟩ := ha
  obtain ⟨p, q, rfl, h1, h2⟩ := bcall_ok h
  obtain ⟨es, kk, tp, rfl⟩ := isTupE_ok ht
  refine ⟨iEnumA K (tCons t tNil), fun X g => ?_, fun σ H env Ps ds r e => ?_⟩
  · have := g.hK
    subst this
    exact PI.or (pi_enum (g.gl h1) (g.free _ (by decide +kernel)) (pa_cons (t1 X g) pa_nil (star1 h2)) (star1 h2)) (pi_enumT (g.gl h1) (g.free _ (by decide +kernel)) (pa_cons (t1 X g) pa_nil (star1 h2)) (star1 h2))
  · simp only [evalIT] at e
    obtain ⟨u, e1, e⟩ := bind_split e
    obtain ⟨us, e2, e⟩ := bind_split e
    cases e
    have := t2 σ H env Ps u r e1
    rw [la] at this
    exact evEnum r.dom this e2
theorem bcall2_ok {f : Str} {e x y : Expr} (h : bcall2 S f e = some (x, y)) : ∃ p q, e = .Call (.Name f p) [x, y] [] q ∧ glB S f = true ∧ noStar x = true ∧ noStar y = true := by
  unfold bcall2 at h
  split at h
  · split at h
    · rename_i hc
      cases h
      obtain ⟨rfl, g1, g2, g3⟩ := hc
      exact ⟨_, _, rfl, g1, g2, g3⟩
    · cases h
  · cases h
theorem okI_zip {a b : IE} {tg e x y : Expr} (ha : OkE k defs K S a x) (hb : OkE k defs K S b y) (h : bcall2 S "zip" e = some (x, y)) (ht : isTupE tg = true) (la : lv S.M a = false) (lb : lv S.M b = false) : OkI k defs K S (.zip a b) tg e := by
  obtain ⟨ta, a1, a2⟩ := ha
  obtain ⟨tb, b1, b2⟩ := hb
  obtain ⟨p, q, rfl, g1, g2, g3⟩ := bcall2_ok h
  obtain ⟨es, kk, tp, rfl⟩ := isTupE_ok ht
  refine ⟨iZipAll K (tCons ta (tCons tb tNil)), fun X g => ?_, fun σ H env Ps ds r e => ?_⟩
  · have := g.hK
    subst this
    have P : ∀ t1 t2, PI X (.Tuple es kk tp) _ (iZipB t1 t2 X.K (tCons ta (tCons tb tNil))) := fun t1 t2 => pi_zipB t1 t2 (p := p) (pos := q) (g.gl g1) (g.free _ (by decide +kernel)) (pa_cons (a1 X g) (pa_cons (b1 X g) pa_nil (star1 g3)) (star1 g2)) (star1 g2) (by rw [star1 g3]; rfl)
    exact PI.or (PI.or (P true true) (P true false)) (PI.or (P false true) (P false false))
  · simp only [evalIT] at e
    obtain ⟨u, e1, e⟩ := bind_split e
    obtain ⟨w, e2, e⟩ := bind_split e
    obtain ⟨us, e3, e⟩ := bind_split e
    obtain ⟨ws, e4, e⟩ := bind_split e
    cases e
    have h1 := a2 σ H env Ps u r e1
    have h2 := b2 σ H env Ps w r e2
    rw [la] at h1
    rw [lb] at h2
    exact evZip r.dom h1 h2 e3 e4
/-! ### comprehensions -/
theorem Gd.blk {X : Cx} (g : Gd S k defs K X) (s : Shared) (H : Hp) (scope : Scope) (C : Addr) (cl : List (Str × Addr)) (fp : List Addr) : Gd (blkS S scope) k defs K (X.blk s H scope (compEnvC scope cl C X.env) fp) where
  hK := g.hK
  N := g.N
  nd := g.nd
  sc := by
    show relS scope X.env.scope = relS scope S.sc
    rw [g.sc]
  calm := g.calm
  room := g.room
  fn := rfl
  free := g.free
  gls := g.gls
  glr := g.glr
  fns := g.fns
theorem own_snd {t : Tg} : (ownOf S t).map (·.2) = t.slots := by
  unfold ownOf
  rw [List.map_map]
  show t.slots.map (fun i => i) = _
  simp
theorem fold_plain {e : Expr} {env : Env} (h : noSet e = true) (x : Value) : foldedSetIterable e env x = pure x := by
  cases e <;> first | rfl | cases h
theorem okE_comp {t : Tg} {it : IT} {elt : IE} {x tg i : Expr} {scope : Scope} {p : Pos} (hi : OkI k defs K S it tg i) (hx : OkE k defs K (blkS S scope) elt x) (hset : noSet i = true) (hb : blkC S.N S.sc scope (ownOf S t) = true) (ht : chkT (blkS S scope) t tg = true) (hl : lv S.M elt = false) :
    OkE k defs K S (.comp t it elt) (.ListComp x [⟨tg, i, [], 0⟩] scope p) := by
  obtain ⟨wi, i1, i2⟩ := hi
  obtain ⟨te, x1, x2⟩ := hx
  refine ⟨tLc wi (tgR K t) tYes te ((ownOf S t).map (·.2)), fun X g => ?_, fun σ H env Ps d r e => ?_⟩
  · refine pe_lc g.calm (by rw [g.N]; exact g.nd) (i1 X g) (by rw [g.N, g.sc]; exact blkOk_by hb) (fun s H C cl fp => ?_) (fun s H C cl fp => pts_nil) (fun s H C cl fp => x1 _ (g.blk s H scope C cl fp)) (fun v => fold_plain hset v)
    exact tg_pg (g.blk s H scope C cl fp) ht
  · simp only [evalE] at e
    obtain ⟨ds, e1, e⟩ := bind_split e
    obtain ⟨rr, e2, e⟩ := bind_split e
    cases e
    refine evComp own_snd r (i2 σ H env Ps ds r e1) (tg_ok (S := blkS S scope) ht) (tame_split e2) fun d o ho => ?_
    obtain ⟨env', h1, h2⟩ := bind_split ho
    obtain ⟨y, h3, h4⟩ := bind_split h2
    cases h4
    refine ⟨env', h1, fun σ' H' Ps' r' => ⟨true, fun H0 s0 Q q => q H0 (Same.refl _), fun _ => ⟨y, rfl, ?_⟩, fun z => nomatch z⟩⟩
    have := x2 σ' H' env' Ps' y r' h3
    have hl' : lv (blkS S scope).M elt = false := hl
    rw [hl'] at this
    exact this
theorem okE_compIf {t : Tg} {it : IT} {c elt : IE} {x y tg i : Expr} {scope : Scope} {p : Pos} (hi : OkI k defs K S it tg i) (hc : OkB k defs K (blkS S scope) c y) (hx : OkE k defs K (blkS S scope) elt x) (hset : noSet i = true) (hb : blkC S.N S.sc scope (ownOf S t) = true) (ht : chkT (blkS S scope) t tg = true) (hl : lv S.M elt = false) :
    OkE k defs K S (.compIf t it c elt) (.ListComp x [⟨tg, i, [y], 0⟩] scope p) := by
  obtain ⟨wi, i1, i2⟩ := hi
  obtain ⟨tt, c1, c2⟩ := hc
  obtain ⟨te, x1, x2⟩ := hx
  refine ⟨tLc wi (tgR K t) tt te ((ownOf S t).map (·.2)), fun X g => ?_, fun σ H env Ps d r e => ?_⟩
  · refine pe_lc g.calm (by rw [g.N]; exact g.nd) (i1 X g) (by rw [g.N, g.sc]; exact blkOk_by hb) (fun s H C cl fp => ?_) (fun s H C cl fp => pts_one (c1 _ (g.blk s H scope C cl fp))) (fun s H C cl fp => x1 _ (g.blk s H scope C cl fp)) (fun v => fold_plain hset v)
    exact tg_pg (g.blk s H scope C cl fp) ht
  · simp only [evalE] at e
    obtain ⟨ds, e1, e⟩ := bind_split e
    obtain ⟨rr, e2, e⟩ := bind_split e
    cases e
    refine evComp own_snd r (i2 σ H env Ps ds r e1) (tg_ok (S := blkS S scope) ht) (tame_split e2) fun d o ho => ?_
    obtain ⟨env', h1, h2⟩ := bind_split ho
    obtain ⟨u, h3, h4⟩ := bind_split h2
    obtain ⟨b, h5, h6⟩ := bind_split h4
    refine ⟨env', h1, fun σ' H' Ps' r' => ⟨b, c2 σ' H' env' Ps' b r' (by rw [h3]; exact h5), fun hb => ?_, fun hb => ?_⟩⟩
    · subst hb
      obtain ⟨y, h7, h8⟩ := bind_split (show (evalE (callF defs k) elt env').bind (fun x => Res.ok (some x)) = .ok o from h6)
      cases h8
      refine ⟨y, rfl, ?_⟩
      have := x2 σ' H' env' Ps' y r' h7
      have hl' : lv (blkS S scope).M elt = false := hl
      rw [hl'] at this
      exact this
    · subst hb
      cases h6
      rfl
end
end Tq

/-! Tq, part V: further expressions; new things. -/
namespace Tq
open PySem L2 Res
theorem PE.alt {X : Cx} {e : Expr} {t t' : TE} (h : PE X e t) (h' : PE X e t') : PE X e (fun σ H Q => t σ H Q ∨ t' σ H Q) :=
  ⟨fun pins s σ H Q I hw => hw.elim (h.run pins s σ H Q I) (h'.run pins s σ H Q I)⟩
section
variable {K : PySem.W.Frag} {M : List Nat} {H H' : Hp} {Ps : List Addr} {σ : St} {env : En}
theorem Pv.sw {v : V} {d : D} (h : Pv K H Ps v d) (e : Sw H H') (same : ∀ p ∈ Ps, H' p = H p) : Pv K H' Ps v d := by
  cases d with
  | list ds =>
    obtain ⟨p, xs, rfl, hp, q, r, z⟩ := h
    exact ⟨p, xs, rfl, hp, (same p hp).trans q, r.sw (e.hide Ps), z⟩
  | dict ds =>
    obtain ⟨p, xs, rfl, hp, q, r, z⟩ := h
    exact ⟨p, xs, rfl, hp, (same p hp).trans q, r.sw (e.hide Ps), z⟩
  | _ => exact False.elim h
theorem EnvR.sw (r : EnvR K M H Ps σ env) (e : Sw H H') (same : ∀ p ∈ Ps, H' p = H p) : EnvR K M H' Ps σ env where
  get := fun i d h => by
    obtain ⟨v, h1, h2, h3⟩ := r.get i d h
    exact ⟨v, h1, h2.elim (fun q => .inl (q.sw (e.hide Ps))) fun q => .inr ⟨q.1, q.2.sw e same⟩, fun z => (h3 z).sw e same⟩
  inj := r.inj
  dom := fun q hq => by rw [same q hq]; exact r.dom q hq
  len := r.len
theorem keys_get {H : Hp} : ∀ {ks : List (Key × V)} {kvs : List (D × D)} {ds : List D} {i : Nat} {k : Key} {v : V}, RpKV K H ks kvs → keysD kvs = some ds → ks[i]? = some (k, v) → ∃ d, ds[i]? = some d ∧ ∀ H', Rp K H' (kV k) d
  | _, _, _, _, _, _, .nil, _, e => by simp at e
  | _, _, ds, i, k, v, .cons (x := x) (ds := kvs) z1 z2 h r, hk, e => by
    have hk : (keysD kvs).map (PyData.str x :: ·) = some ds := hk
    cases q : keysD kvs with
    | none => rw [q] at hk; cases hk
    | some ds' =>
      rw [q] at hk; cases hk
      cases i with
      | zero =>
        simp at e
        obtain ⟨rfl, rfl⟩ := e
        exact ⟨_, rfl, fun H' => .str z1 z2⟩
      | succ i => exact keys_get (i := i) r q (by simpa using e)
theorem keys_len {H : Hp} : ∀ {ks : List (Key × V)} {kvs : List (D × D)} {ds : List D}, RpKV K H ks kvs → keysD kvs = some ds → ds.length = ks.length
  | _, _, _, .nil, hk => by cases hk; rfl
  | _, _, ds, .cons (x := x) (ds := kvs) z1 z2 h r, hk => by
    have hk : (keysD kvs).map (PyData.str x :: ·) = some ds := hk
    cases q : keysD kvs with
    | none => rw [q] at hk; cases hk
    | some ds' =>
      rw [q] at hk; cases hk
      rw [List.length_cons, List.length_cons, keys_len r q]
theorem iter_keys {a : Addr} {o : Obj} {ks : List (Key × V)} {kvs : List (D × D)} {ds : List D} (h : hide H Ps a = some (.frz o (.dK ks))) (r : RpKV K (hide H Ps) ks kvs) (hk : keysD kvs = some ds) (z : kvs.length ≤ sizeLine) : IterOk K (Itk a o ks) H Ps ds := by
  have hl := keys_len r hk
  refine ⟨by rw [hl, r.length]; exact z, _, _, by rw [hl]; exact walk_keys, fun Ps' H' s => hide_le _ _ _ _ (s _ _ h), fun i Ps' Hi x H' hi s dom y => ?_⟩
  obtain ⟨rfl, k, v, hx, rfl⟩ := y
  obtain ⟨d, h1, h2⟩ := keys_get r hk hx
  exact ⟨Same.refl _, d, h1, h2 _⟩
def tKeys (K : PySem.W.Frag) (i j : Nat) (tt : TT) (te : TE) (vs : List Nat) : TE := fun σ H Q => tLockE (tLc (iKeys (tVar i)) (tgR K (.nm j)) tt te vs) σ H Q ∨ tLc (iKeys (tVar i)) (tgR K (.nm j)) tt te vs σ H Q
/-- a comprehension over a dict's keys, the dict locked meanwhile -/
theorem evKeys {i j : Nat} {tt : TT} {te : TE} {kvs : List (D × D)} {ks r : List D} {f : D → Res (Option D)} {vs : List Nat} (hvs : vs = [j])
    (re : EnvR K M H Ps σ env) (hm : M.contains i = false) (he : env[i]? = some (some (.dict kvs))) (hk : keysD kvs = some ks) (ht : TgOk K M (.nm j) (tgR K (.nm j))) (hr : eachD f ks = .ok r)
    (hf : ∀ d o, f d = .ok o → ∀ σ' H' Ps', EnvR K M H' Ps' σ' (env.set j (some d)) → ∃ b, EvB tt σ' H' b ∧ (b = true → ∃ y, o = some y ∧ EvD K te σ' H' Ps' false y) ∧ (b = false → o = none)) :
    EvD K (tKeys K i j tt te vs) σ H Ps false (.list r) := by
  intro H0 s0 Q q
  have re0 := re.same s0
  obtain ⟨v, h1, h2, _⟩ := re0.get i _ he
  rw [hm] at h2
  have hkk : isKeyed kvs = true := by unfold isKeyed; rw [hk]; rfl
  have core : ∀ (a : Addr) (o : Obj) (kk : List (Key × V)) (Hx : Hp), v = .ref a → EnvR K M Hx Ps σ env → hide Hx Ps a = some (.frz o (.dK kk)) → RpKV K (hide Hx Ps) kk kvs → kvs.length ≤ sizeLine → EvD K (tLc (iKeys (tVar i)) (tgR K (.nm j)) tt te vs) σ Hx Ps false (.list r) := by
    intro a o kk Hx ev rx ha rk hz
    subst hvs
    refine evComp (t := .nm j) (f := f) rfl rx (ds := ks) ?_ ht hr fun d o' ho => ⟨env.set j (some d), by simp only [Tg.put], fun σ' H' Ps' r' => hf d o' ho σ' H' Ps' r'⟩
    intro H2 s2 R q2
    subst ev
    refine ⟨_, h1, a, o, rfl, .inl ⟨kk, s2 _ _ (hide_le _ _ _ _ ha), q2 _ _ (Same.refl _) ?_⟩⟩
    exact iter_keys (hide_mono s2 Ps _ _ ha) (rk.mono (hide_mono s2 Ps)) hk hz
  cases h2.clean with
  | scr _ _ _ => cases hkk
  | dct hd rk hz =>
    rename_i a kk _
    rcases hd with hd | ⟨o, hd⟩
    · obtain ⟨na, hd'⟩ := hide_some hd
      refine .inl ⟨a, _, hd', trivial, fun od => ?_⟩
      have same : ∀ p ∈ Ps, upd H0 a (.frz od (.dK kk)) p = H0 p := fun p hp => upd_ne fun z => na (z ▸ hp)
      have sw := Sw.lock (od := od) hd'
      refine core a od kk _ rfl (re0.sw sw same) (by rw [hide_out na, upd_same]) (rk.sw (sw.hide Ps)) hz _ (Same.refl _) _ fun u H1 s1 ru => ?_
      have e1 : H1 a = some (.frz od (.dK kk)) := s1 _ _ upd_same
      refine ⟨e1, q u _ (fun b ob hb => ?_) (.of (ru.clean.sw ((Sw.unlock e1).hide Ps)))⟩
      by_cases e : b = a
      · subst e
        rw [hd'] at hb
        cases hb
        exact upd_same
      · rw [upd_ne e]
        exact s1 _ _ (by rw [upd_ne e]; exact hb)
    · exact .inr (core a o kk H0 rfl re0 hd rk hz H0 (Same.refl _) Q q)
end
section
variable {k : Nat} {defs : Nat → Option FDef} {K : PySem.W.Frag} {S : Sx}
theorem okE_bad {e : Expr} : OkE k defs K S .bad e := ⟨fun _ _ _ => False, fun X g => ⟨fun _ _ _ _ _ _ h => False.elim h⟩, fun σ H env Ps d r h => by simp only [evalE] at h; cases h⟩
theorem okB_bad {e : Expr} : OkB k defs K S .bad e := ⟨fun _ _ _ => False, fun X g => ⟨fun _ _ _ _ _ _ h => False.elim h⟩, fun σ H env Ps d r h => by simp only [evalE, bind_bad] at h; cases h⟩
theorem okE_glob {x : Str} {d : D} {p : Pos} (hg : glB S x = true) (hm : S.gl.any (fun p => decide (p.1 = x) && sameD p.2 d) = true) (hd : (x == ("__debug__" : Str)) = false) : OkE k defs K S (.glob x d) (.Name x p) := by
  obtain ⟨q, hq, hh⟩ := List.any_eq_true.mp hm
  simp only [Bool.and_eq_true, decide_eq_true_eq] at hh
  have e1 := hh.1
  have e2 := sameD_eq _ _ hh.2
  subst e1
  subst e2
  refine ⟨fun σ H Q => (∀ H', Rp K H' (gK K q.1) q.2) → Q (gK K q.1) H, fun X g => ⟨fun pins s σ H Q I h => ?_⟩, fun σ H env Ps d' r h H0 s0 Q qq hr => ?_⟩
  · obtain ⟨u, hu, ru⟩ := g.gls q hq
    exact (pe_glob (g.gl hg) hu ru hd).run pins s σ H Q I (h fun H' => g.glr q hq H')
  · simp only [evalE] at h
    cases h
    exact qq _ H0 (Same.refl _) (.of (hr _))
/-! slices -/
def OkO (k : Nat) (defs : Nat → Option FDef) (K : PySem.W.Frag) (S : Sx) (ie : IE) (e : Option Expr) : Prop := ∃ t : TO, (∀ X, Gd S k defs K X → PO X e t) ∧ ∀ σ H env Ps d l, EnvR K S.M H Ps σ env → evalE (callF defs k) ie env = .ok d → bound d = some l →
  ∀ H0, Same H H0 → ∀ Q : Option Int → Hp → Prop, (∀ H1, Same H0 H1 → Q l H1) → t σ H0 Q
theorem okO_none {ie : IE} (h : isNon ie = true) : OkO k defs K S ie none := ⟨tNoPart, fun X g => po_none, fun σ H env Ps d l r e hb H0 s0 Q q => by
  cases ie <;> first | (cases h; done) | skip
  simp only [evalE] at e
  cases e
  cases hb
  exact q H0 (Same.refl _)⟩
def tPartA (t : TE) : TO := fun σ H Q => t σ H fun x H1 => (∃ i, x = .int i ∧ Q (some i) H1) ∨ (x = .non ∧ Q none H1)
theorem po_any {X : Cx} {e : Expr} {t : TE} (h : PE X e t) : PO X (some e) (tPartA t) := by
  refine ⟨fun pins s σ H Q I hw => ?_⟩
  rw [evalPart_some]
  refine thn (h.run pins s σ H _ I hw) fun u s1 ⟨x, H1, I1, r1, q1⟩ => ?_
  rcases q1 with ⟨i, rfl, q⟩ | ⟨rfl, q⟩
  · obtain ⟨t, rfl⟩ := r1
    exact ⟨some i, H1, I1, .int i t, q⟩
  · cases r1
    exact ⟨none, H1, I1, .none, q⟩
theorem okO_some {ie : IE} {e : Expr} (h : OkE k defs K S ie e) : OkO k defs K S ie (some e) := by
  obtain ⟨t, t1, t2⟩ := h
  refine ⟨tPartA t, fun X g => po_any (t1 X g), fun σ H env Ps d l r e hb H0 s0 Q q => ?_⟩
  refine t2 σ H env Ps d r e H0 s0 _ fun v H1 s1 rv => ?_
  cases d with
  | none => cases hb; cases rv.non; exact .inr ⟨rfl, q H1 s1⟩
  | int i => cases hb; cases rv.int; exact .inl ⟨i, rfl, q H1 s1⟩
  | _ => cases hb
theorem sl_split {a b c z : D} (h : slD a b c = .ok z) : ∃ l m, bound b = some l ∧ bound c = some m ∧ cutD l m a = .ok z := by
  unfold slD at h
  cases q : bound b with
  | none => rw [q] at h; cases h
  | some l =>
    cases q2 : bound c with
    | none => rw [q, q2] at h; cases h
    | some m => rw [q, q2] at h; exact ⟨l, m, rfl, rfl, h⟩
theorem okE_sl {a b c : IE} {e x : Expr} {y z : Option Expr} (ha : OkE k defs K S a x) (hb : OkO k defs K S b y) (hc : OkO k defs K S c z) (h : slE e = some (x, y, z)) : OkE k defs K S (.o3 .sl a b c) e := by
  obtain ⟨ta, a1, a2⟩ := ha
  obtain ⟨tb, b1, b2⟩ := hb
  obtain ⟨tc, c1, c2⟩ := hc
  obtain ⟨p, pos, rfl⟩ := slE_ok h
  refine ⟨tSl (rSlAll K) ta tb tc, fun X g => g.hK ▸ pe_slice sl_all (a1 X g) (b1 X g) (c1 X g), fun σ H env Ps d r e H0 s0 Q q => ?_⟩
  simp only [evalE] at e
  obtain ⟨u, e1, e⟩ := bind_split e
  obtain ⟨w, e2, e⟩ := bind_split e
  obtain ⟨m, e3, e⟩ := bind_split e
  obtain ⟨l1, l2, f1, f2, f3⟩ := sl_split e
  refine a2 σ H env Ps u r e1 H0 s0 _ fun v H1 s1 rv => b2 σ H env Ps w l1 r e2 f1 H1 (s0.trans s1) _ fun H2 s2 => c2 σ H env Ps m l2 r e3 f2 H2 ((s0.trans s1).trans s2) _ fun H3 s3 => ?_
  have d1 := dom_same r.dom (s0.trans s1)
  exact r_sl (dom_same d1 (s2.trans s3)) (rv.same d1 (s2.trans s3)) f3 fun u' H4 s4 ru => q u' H4 (((s1.trans s2).trans s3).trans s4) (.of ru)
/-! d.get(k, x) -/
theorem okE_get {a b c : IE} {e x y z : Expr} (ha : OkE k defs K S a x) (hb : OkE k defs K S b y) (hc : OkE k defs K S c z) (lc : lv S.M c = false) (h : get2E e = some (x, y, z)) : OkE k defs K S (.o3 .get a b c) e := by
  obtain ⟨ta, a1, a2⟩ := ha
  obtain ⟨tb, b1, b2⟩ := hb
  obtain ⟨tc, c1, c2⟩ := hc
  obtain ⟨p, q, rfl, h1, h2, h3, h4⟩ := get2E_ok h
  refine ⟨tDGet2 ta tb tc, fun X g => pe_dget2 (by have := g.hu; omega) (a1 X g) (b1 X g) (c1 X g) ⟨base_plain h2, by rw [star1 h3, star1 h4]; rfl, h1, by rw [star1 h3, star1 h4]; rfl⟩, fun σ H env Ps d r e H0 s0 Q q => ?_⟩
  simp only [evalE] at e
  obtain ⟨u, e1, e⟩ := bind_split e
  obtain ⟨w, e2, e⟩ := bind_split e
  obtain ⟨m, e3, e⟩ := bind_split e
  cases u with
  | dict kvs =>
    cases w with
    | str kk =>
      have e : (if isKeyed kvs = true then Res.ok ((lookD kk kvs).getD m) else .bad) = .ok d := e
      by_cases hk : isKeyed kvs = true
      · rw [if_pos hk] at e
        cases e
        refine a2 σ H env Ps _ r e1 H0 s0 _ fun v H1 s1 rv => ?_
        obtain ⟨ad, ks, rfl, hr, rk, hz⟩ := rv.dct hk
        refine ⟨ad, rfl, .inl ⟨ks, hr⟩, b2 σ H env Ps _ r e2 H1 (s0.trans s1) _ fun v2 H2 s2 rv2 => c2 σ H env Ps _ r e3 H2 ((s0.trans s1).trans s2) _ fun v3 H3 s3 rv3 => ?_⟩
        obtain ⟨rfl, _, _⟩ := rv2.str
        have hr3 : Rd H3 ad (.dK ks) := hr.elim (fun q => .inl (s3 _ _ (s2 _ _ q))) fun ⟨o, q⟩ => .inr ⟨o, s3 _ _ (s2 _ _ q)⟩
        refine ⟨_, dget_of (Ps := Ps) hr3, q _ H3 ((s1.trans s2).trans s3) ?_⟩
        rw [lc] at rv3
        cases hl : lookD kk kvs with
        | none => rw [(rk.look kk).2 hl]; exact .of rv3.clean
        | some dd =>
          obtain ⟨vv, hv, rr⟩ := (rk.look kk).1 dd hl
          rw [hv]
          exact .of (rr.mono (hide_mono (s2.trans s3) Ps))
      · rw [if_neg hk] at e; cases e
    | _ => cases e
  | _ => cases e
/-! comprehensions over keys -/
theorem keys_split {i : Nat} {env : En} {u : D} {ds : List D} (e1 : slot env[i]? = .ok u) (e2 : keysOf u = .ok ds) : ∃ kvs, env[i]? = some (some (.dict kvs)) ∧ keysD kvs = some ds := by
  cases q : env[i]? with
  | none => rw [q] at e1; cases e1
  | some o =>
    cases o with
    | none => rw [q] at e1; cases e1
    | some x =>
      rw [q] at e1
      cases e1
      cases u with
      | dict kvs =>
        have e2 : (match keysD kvs with | some ks => Res.ok ks | none => .bad) = .ok ds := e2
        cases q2 : keysD kvs with
        | none => rw [q2] at e2; cases e2
        | some ks => rw [q2] at e2; cases e2; exact ⟨kvs, rfl, q2⟩
      | _ => cases e2
theorem okE_compK {i j : Nat} {elt : IE} {x tg ie : Expr} {scope : Scope} {p : Pos} (hi : chkE S (.var i) ie = true) (hx : OkE k defs K (blkS S scope) elt x) (hm : S.M.contains i = false) (hset : noSet ie = true) (hb : blkC S.N S.sc scope (ownOf S (.nm j)) = true) (ht : chkT (blkS S scope) (.nm j) tg = true) (hl : lv S.M elt = false) :
    OkE k defs K S (.compK j (.var i) elt) (.ListComp x [⟨tg, ie, [], 0⟩] scope p) := by
  obtain ⟨te, x1, x2⟩ := hx
  cases ie with
  | Name y py =>
    have hi : visB S i y = true := by simpa [chkE] using hi
    refine ⟨tKeys K i j tYes te ((ownOf S (.nm j)).map (·.2)), fun X g => ?_, fun σ H env Ps d r e => ?_⟩
    · obtain ⟨a, b, c, d⟩ := g.vis hi
      have pe : PE X (.ListComp x [⟨tg, .Name y py, [], 0⟩] scope p) (tLc (iKeys (tVar i)) (tgR K (.nm j)) tYes te ((ownOf S (.nm j)).map (·.2))) :=
        pe_lc g.calm (by rw [g.N]; exact g.nd) (pi_keys (pe_var a b c d)) (by rw [g.N, g.sc]; exact blkOk_by hb) (fun s H C cl fp => tg_pg (g.blk s H scope C cl fp) ht) (fun s H C cl fp => pts_nil) (fun s H C cl fp => x1 _ (g.blk s H scope C cl fp)) (fun v => fold_plain hset v)
      exact PE.alt (pe_lock pe) pe
    · simp only [evalE] at e
      obtain ⟨u, e0, e⟩ := bind_split e
      obtain ⟨ds, e1, e⟩ := bind_split e
      obtain ⟨rr, e2, e⟩ := bind_split e
      cases e
      obtain ⟨kvs, f1, f2⟩ := keys_split e0 e1
      refine evKeys own_snd r hm f1 f2 (tg_ok (S := blkS S scope) ht) (tame_split e2) fun d o ho σ' H' Ps' r' => ?_
      obtain ⟨y, h3, h4⟩ := bind_split ho
      cases h4
      refine ⟨true, fun H0 s0 Q q => q H0 (Same.refl _), fun _ => ⟨y, rfl, ?_⟩, fun z => nomatch z⟩
      have := x2 σ' H' _ Ps' y r' h3
      have hl' : lv (blkS S scope).M elt = false := hl
      rw [hl'] at this
      exact this
  | _ => simp [chkE] at hi
theorem okE_compKIf {i j : Nat} {c elt : IE} {x y tg ie : Expr} {scope : Scope} {p : Pos} (hi : chkE S (.var i) ie = true) (hc : OkB k defs K (blkS S scope) c y) (hx : OkE k defs K (blkS S scope) elt x) (hm : S.M.contains i = false) (hset : noSet ie = true) (hb : blkC S.N S.sc scope (ownOf S (.nm j)) = true) (ht : chkT (blkS S scope) (.nm j) tg = true) (hl : lv S.M elt = false) :
    OkE k defs K S (.compKIf j (.var i) c elt) (.ListComp x [⟨tg, ie, [y], 0⟩] scope p) := by
  obtain ⟨te, x1, x2⟩ := hx
  obtain ⟨tt, c1, c2⟩ := hc
  cases ie with
  | Name yn py =>
    have hi : visB S i yn = true := by simpa [chkE] using hi
    refine ⟨tKeys K i j tt te ((ownOf S (.nm j)).map (·.2)), fun X g => ?_, fun σ H env Ps d r e => ?_⟩
    · obtain ⟨a, b, c, d⟩ := g.vis hi
      have pe : PE X (.ListComp x [⟨tg, .Name yn py, [y], 0⟩] scope p) (tLc (iKeys (tVar i)) (tgR K (.nm j)) tt te ((ownOf S (.nm j)).map (·.2))) :=
        pe_lc g.calm (by rw [g.N]; exact g.nd) (pi_keys (pe_var a b c d)) (by rw [g.N, g.sc]; exact blkOk_by hb) (fun s H C cl fp => tg_pg (g.blk s H scope C cl fp) ht) (fun s H C cl fp => pts_one (c1 _ (g.blk s H scope C cl fp))) (fun s H C cl fp => x1 _ (g.blk s H scope C cl fp)) (fun v => fold_plain hset v)
      exact PE.alt (pe_lock pe) pe
    · simp only [evalE] at e
      obtain ⟨u, e0, e⟩ := bind_split e
      obtain ⟨ds, e1, e⟩ := bind_split e
      obtain ⟨rr, e2, e⟩ := bind_split e
      cases e
      obtain ⟨kvs, f1, f2⟩ := keys_split e0 e1
      refine evKeys own_snd r hm f1 f2 (tg_ok (S := blkS S scope) ht) (tame_split e2) fun d o ho σ' H' Ps' r' => ?_
      obtain ⟨u, h3, h4⟩ := bind_split ho
      obtain ⟨b, h5, h6⟩ := bind_split h4
      refine ⟨b, c2 σ' H' _ Ps' b r' (by rw [h3]; exact h5), fun hb => ?_, fun hb => ?_⟩
      · subst hb
        obtain ⟨y, h7, h8⟩ := bind_split (show (evalE (callF defs k) elt (env.set j (some d))).bind (fun x => Res.ok (some x)) = .ok o from h6)
        cases h8
        refine ⟨y, rfl, ?_⟩
        have := x2 σ' H' _ Ps' y r' h7
        have hl' : lv (blkS S scope).M elt = false := hl
        rw [hl'] at this
        exact this
      · subst hb
        cases h6
        rfl
  | _ => simp [chkE] at hi
/-! displays -/
def OkP (k : Nat) (defs : Nat → Option FDef) (K : PySem.W.Frag) (S : Sx) (ks : List Str) (as : IEs) (keys : List (Option Expr)) (es : List Expr) : Prop := ∃ trs : List (TE × TE), (∀ X pos, Gd S k defs K X → PPs X pos keys es trs) ∧ ∀ σ H env Ps ds, EnvR K S.M H Ps σ env → evalEs (callF defs k) as env = .ok ds →
  ∀ H0, Same H H0 → ∀ Q : List (V × V) → Hp → Prop, (∀ kvs H1, Same H0 H1 → RpKV K (hide H1 Ps) kvs ((ks.map PyData.str).zip ds) → ks.length = ds.length → Q (kvs.map fun kv => (kV kv.1, kv.2)) H1) → tPairs trs σ H0 Q
theorem okP_nil : OkP k defs K S [] .nil [] [] := ⟨[], fun X pos g => pps_nil, fun σ H env Ps ds r e H0 s0 Q q => by
  simp only [evalEs] at e; cases e
  exact q [] H0 (Same.refl _) .nil rfl⟩
theorem okP_cons {x : Str} {ks : List Str} {a : IE} {as : IEs} {keys : List (Option Expr)} {e : Expr} {es : List Expr} {kk : Nat} {pk : Pos} (hs : smallStr x = true) (ha : OkE k defs K S a e) (la : lv S.M a = false) (hr : OkP k defs K S ks as keys es) : OkP k defs K S (x :: ks) (.cons a as) (some (.Constant (.str x) kk pk) :: keys) (e :: es) := by
  obtain ⟨ta, a1, a2⟩ := ha
  obtain ⟨trs, r1, r2⟩ := hr
  refine ⟨(tC (.str x), ta) :: trs, fun X pos g => pps_cons pe_str (a1 X g) (r1 X pos g), fun σ H env Ps ds r e H0 s0 Q q => ?_⟩
  simp only [evalEs] at e
  obtain ⟨d, e1, e⟩ := bind_split e
  obtain ⟨ds', e2, e⟩ := bind_split e
  cases e
  have := a2 σ H env Ps d r e1
  rw [la] at this
  refine this H0 s0 _ fun v H1 s1 rv => r2 σ H env Ps ds' r e2 H1 (s0.trans s1) _ fun kvs H2 s2 rk hl => ?_
  simp only [smallStr, Bool.and_eq_true, decide_eq_true_eq] at hs
  refine q ((.inr x, v) :: kvs) H2 (s1.trans s2) ?_ (by simp [hl])
  exact .cons (Nat.le_of_lt (small1000 hs.1)) hs.2 (rv.clean.mono (hide_mono s2 Ps)) rk
theorem disp_ok {H : Hp} : ∀ {ks : List Str} {ds : List D} {kvs acc : List (Key × V)} {dacc out : List (D × D)}, RpKV K H kvs ((ks.map PyData.str).zip ds) → RpKV K H acc dacc → dispD ks ds dacc = some out → RpKV K H (mergeK acc kvs) out
  | [], [], _, _, _, _, .nil, ra, e => by cases e; exact ra
  | [], _ :: _, _, _, _, _, _, _, e => by cases e
  | _ :: _, [], _, _, _, _, _, _, e => by cases e
  | x :: ks, d :: ds, kvs, acc, dacc, out, rk, ra, e => by
    have rk : RpKV K H kvs ((PyData.str x, d) :: (ks.map PyData.str).zip ds) := rk
    cases rk with
    | cons z1 z2 h r =>
      rename_i v vs
      show RpKV K H (mergeK (putK acc (.inr x) v) vs) out
      exact disp_ok (ks := ks) (ds := ds) r (ra.put z1 z2 h) e
theorem disp_len : ∀ {ks : List Str} {ds : List D} {dacc out : List (D × D)}, dispD ks ds dacc = some out → out.length ≤ dacc.length + ks.length
  | [], [], _, _, e => by cases e; exact Nat.le_refl _
  | [], _ :: _, _, _, e => by cases e
  | _ :: _, [], _, _, e => by cases e
  | x :: ks, d :: ds, dacc, out, e => by
    have h1 := disp_len (ks := ks) (ds := ds) e
    have h2 : (putD x d dacc).length ≤ dacc.length + 1 := by
      unfold putD
      split
      · simp
      · simp
    rw [List.length_cons]
    omega
theorem okF_dsp {ks : List Str} {as : IEs} {keys : List (Option Expr)} {es : List Expr} {pos : Pos} (h : OkP k defs K S ks as keys es) (k1 : keys.all (·.isSome) = true) (k2 : keys.length = ks.length) (hl : ks.length ≤ 15) (he : keys.length = es.length) : ∃ t, (∀ X, Gd S k defs K X → PE X (.Dict keys es pos) t) ∧ ∀ σ H env Ps d, EnvR K S.M H Ps σ env → evalE (callF defs k) (.dsp ks as) env = .ok d → EvF K t σ H Ps d := by
  obtain ⟨trs, t1, t2⟩ := h
  cases keys with
  | nil =>
    cases es with
    | cons _ _ => simp at he
    | nil =>
      cases ks with
      | cons _ _ => simp at k2
      | nil =>
        refine ⟨tDNewK, fun X g => pe_dnewK, fun σ H env Ps d r e H0 s0 Q q p hp => ?_⟩
        simp only [evalE] at e
        obtain ⟨ds, e1, e⟩ := bind_split e
        cases ds with
        | nil =>
          cases e
          exact q _ _ (same_upd hp) ⟨p, [], rfl, hp, upd_same, .nil, Nat.zero_le _⟩
        | cons _ _ => cases e
  | cons k0 keys =>
    refine ⟨tDisp trs, fun X g => pe_disp (t1 X pos g) k1 he (by simp) (by rw [k2]; exact hl), fun σ H env Ps d r e H0 s0 Q q p hp => ?_⟩
    simp only [evalE] at e
    obtain ⟨ds, e1, e⟩ := bind_split e
    have r0 := r.same s0
    have r1 : EnvR K S.M (upd H0 p (.dK [])) (p :: Ps) σ env := r0.keep (Keep.new r0.dom hp)
    refine t2 σ _ env (p :: Ps) ds r1 e1 _ (Same.refl _) _ fun kvs H2 s2 rk hlen => ?_
    have hp2 : H2 p = some (.dK []) := s2 _ _ upd_same
    have e : (match dispD ks ds [] with | some kvs => Res.ok (PyData.dict kvs) | none => .bad) = .ok d := e
    cases qd : dispD ks ds [] with
    | none => rw [qd] at e; cases e
    | some out =>
      rw [qd] at e
      cases e
      have hkl : kvs.length = ks.length := by rw [rk.length, List.length_zip, List.length_map, ← hlen, Nat.min_self]
      refine ⟨hp2, kvs, rfl, by rw [hkl]; exact hl, q _ _ (fun a o ha => ?_) ⟨p, _, rfl, hp, upd_same, ?_, ?_⟩⟩
      · rw [upd_ne (ne_of_none ha hp)]
        exact s2 _ _ (by rw [upd_ne (ne_of_none ha hp)]; exact ha)
      · rw [hide_upd_in (by simp)]
        exact disp_ok rk .nil qd
      · have := disp_len qd
        rw [sizeLine_eq]
        simp at this
        omega
/-! new lists -/
def OkF (k : Nat) (defs : Nat → Option FDef) (K : PySem.W.Frag) (S : Sx) (ie : IE) (e : Expr) : Prop := ∃ t, (∀ X, Gd S k defs K X → PE X e t) ∧ ∀ σ H env Ps d, EnvR K S.M H Ps σ env → evalE (callF defs k) ie env = .ok d → freshD d = true → EvF K t σ H Ps d
theorem OkF.ok {ie : IE} {e : Expr} (h : ∃ t, (∀ X, Gd S k defs K X → PE X e t) ∧ ∀ σ H env Ps d, EnvR K S.M H Ps σ env → evalE (callF defs k) ie env = .ok d → EvF K t σ H Ps d) (hl : lv S.M ie = false) : OkE k defs K S ie e := by
  obtain ⟨t, t1, t2⟩ := h
  refine ⟨t, t1, fun σ H env Ps d r e => ?_⟩
  rw [hl]
  exact (t2 σ H env Ps d r e).ev r.dom
theorem new_lstF {K : PySem.W.Frag} {H : Hp} {Ps : List Addr} {p : Addr} {xs : List V} {ds : List D} (hp : H p = none) (r : RpAll K (hide H Ps) xs ds) (z : ds.length ≤ sizeLine) : Fr K H (upd H p (.lst xs)) Ps (.ref p) (.list ds) :=
  ⟨p, xs, rfl, hp, upd_same, r.mono (hide_new hp), z⟩
theorem Fr.back {K : PySem.W.Frag} {H H1 H' : Hp} {Ps : List Addr} {u : V} {d : D} (h : Fr K H1 H' Ps u d) (s : Same H H1) : Fr K H H' Ps u d := by
  cases d with
  | list ds => obtain ⟨p, xs, rfl, h1, h2, h3, h4⟩ := h; exact ⟨p, xs, rfl, s.free h1, h2, h3, h4⟩
  | dict kvs => obtain ⟨p, xs, rfl, h1, h2, h3, h4⟩ := h; exact ⟨p, xs, rfl, s.free h1, h2, h3, h4⟩
  | _ => exact False.elim h
theorem okF_lst {es : IEs} {xs : List Expr} {p : Pos} (h : OkA k defs K S es xs) (hc : chkEs S es xs = true) (hl : xs.length ≤ 1000) : OkF k defs K S (.lst es) (.List xs p) := by
  obtain ⟨t, t1, t2⟩ := h
  refine ⟨tLst t, fun X g => pe_lst (t1 X g), fun σ H env Ps d r e _ H0 s0 Q q => ?_⟩
  simp only [evalE] at e
  obtain ⟨ds, e1, e⟩ := bind_split e
  cases e
  refine t2 σ H env Ps ds r e1 H0 s0 _ fun vs H1 s1 rv => ?_
  have z : ds.length ≤ sizeLine := by rw [evalEs_len hc e1]; exact Nat.le_of_lt (small1000 hl)
  exact ⟨by rw [rv.length]; exact z, fun p hp => q _ _ (s1.trans (same_upd hp)) ((new_lstF hp rv z).back s1)⟩
def R2fr (K : PySem.W.Frag) (f : D → D → Res D) (r : R2) : Prop :=
  ∀ (v w : V) (H : Hp) (Ps : List Addr) (d e x : D) (b c : Bool) (Q : VK), RL K H Ps b v d → RL K H Ps c w e → f d e = .ok x → freshD x = true → (∀ u H', Same H H' → Fr K H H' Ps u x → Q u H') → r v w H Q
theorem fr_add : R2fr K addD (rAddAll K) := by
  intro v w H Ps d e x b c Q h1 h2 hx hf q
  cases d <;> cases e <;> first | (cases hx; done) | skip
  · cases hx; cases hf
  · cases hx; cases hf
  · rename_i s t
    simp only [addD] at hx
    split at hx <;> cases hx
    cases hf
  · rename_i s t
    obtain ⟨a, xs, rfl, a1, a2, a3⟩ := h1.list
    obtain ⟨a', ys, rfl, b1, b2, b3⟩ := h2.list
    simp only [addD] at hx
    by_cases z : fits (s.length + t.length) = true
    · rw [if_pos z] at hx; cases hx
      have z' : s.length + t.length ≤ sizeLine := of_decide_eq_true z
      refine .inr <| .inr (.inr (.inl ⟨a, a', xs, ys, rfl, rfl, a1, b1, by rw [a2.length, b2.length]; exact z', fun p hp => ?_⟩))
      exact q _ _ (same_upd hp) (new_lstF hp (a2.append b2) (by rw [List.length_append]; exact z'))
    · rw [if_neg z] at hx; cases hx
  · rename_i s t
    simp only [addD] at hx
    split at hx <;> cases hx
    cases hf
theorem fr_mul : R2fr K mulD rMulAll := by
  intro v w H Ps d e x b c Q h1 h2 hx hf q
  cases d <;> cases e <;> first | (cases hx; done) | skip
  · cases hx; cases hf
  · simp only [mulD] at hx
    split at hx <;> cases hx
    cases hf
  · simp only [mulD] at hx
    split at hx <;> cases hx
    cases hf
  · rename_i s k
    obtain ⟨a, xs, rfl, e1, r, z1⟩ := h1.list; cases h2.int
    have hx : (if repOk s.length k then Res.ok (PyData.list (List.replicate k.toNat s).flatten) else .bad) = .ok x := hx
    split at hx
    · rename_i z; cases hx; have z' := of_decide_eq_true z
      have hz : (List.replicate k.toNat s).flatten.length ≤ sizeLine := by
        rw [flat_len, sizeLine_eq]
        have : k.toNat * s.length ≤ 1000 * 1000 := Nat.mul_le_mul (by omega) z'.2.2
        omega
      refine .inr <| .inr (.inl ⟨a, k, xs, rfl, rfl, e1, by omega, by omega, ?_, fun p hp => q _ _ (same_upd hp) (new_lstF hp (r.rep _) hz)⟩)
      rw [flat_len] at hz
      rw [r.length, Nat.mul_comm]; exact hz
    · cases hx
theorem okF_o2 {op : Op2} {a b : IE} {e x y : Expr} {r : R2} {c : Operator} (ha : OkE k defs K S a x) (hb : OkE k defs K S b y) (h : binE op e = some (x, y)) (ho : binOf op = some c) (hop : ∀ X : Cx, X.K = K → OpR X (binaryOp c) r) (hr : R2fr K (op2 op) r) : OkF k defs K S (.o2 op a b) e := by
  obtain ⟨ta, a1, a2⟩ := ha
  obtain ⟨tb, b1, b2⟩ := hb
  obtain ⟨c', p, rfl, h1⟩ := binE_ok h
  rw [ho] at h1
  cases h1
  refine ⟨tOp r ta tb, fun X g => pe_op (hop X g.hK) (a1 X g) (b1 X g), fun σ H env Ps d re e hf H0 s0 Q q => ?_⟩
  simp only [evalE] at e
  obtain ⟨u, e1, e⟩ := bind_split e
  obtain ⟨w, e2, e⟩ := bind_split e
  refine a2 σ H env Ps u re e1 H0 s0 _ fun v H1 s1 rv => b2 σ H env Ps w re e2 H1 (s0.trans s1) _ fun v2 H2 s2 rv2 => ?_
  have d1 := dom_same re.dom (s0.trans s1)
  exact hr v v2 H2 Ps u w d _ _ Q (rv.same d1 s2) rv2 e hf fun u' H3 s3 f => q u' H3 ((s1.trans s2).trans s3) (f.back (s1.trans s2))
theorem okF_sl {a b c : IE} {e x : Expr} {y z : Option Expr} (ha : OkE k defs K S a x) (hb : OkO k defs K S b y) (hc : OkO k defs K S c z) (h : slE e = some (x, y, z)) : OkF k defs K S (.o3 .sl a b c) e := by
  obtain ⟨ta, a1, a2⟩ := ha
  obtain ⟨tb, b1, b2⟩ := hb
  obtain ⟨tc, c1, c2⟩ := hc
  obtain ⟨p, pos, rfl⟩ := slE_ok h
  refine ⟨tSl (rSlAll K) ta tb tc, fun X g => g.hK ▸ pe_slice sl_all (a1 X g) (b1 X g) (c1 X g), fun σ H env Ps d r e hf H0 s0 Q q => ?_⟩
  simp only [evalE] at e
  obtain ⟨u, e1, e⟩ := bind_split e
  obtain ⟨w, e2, e⟩ := bind_split e
  obtain ⟨m, e3, e⟩ := bind_split e
  obtain ⟨l1, l2, f1, f2, f3⟩ := sl_split e
  refine a2 σ H env Ps u r e1 H0 s0 _ fun v H1 s1 rv => b2 σ H env Ps w l1 r e2 f1 H1 (s0.trans s1) _ fun H2 s2 => c2 σ H env Ps m l2 r e3 f2 H2 ((s0.trans s1).trans s2) _ fun H3 s3 => ?_
  have d1 := dom_same r.dom (s0.trans s1)
  have rv3 := rv.same d1 (s2.trans s3)
  cases u with
  | list xs =>
    obtain ⟨ad, vs, rfl, ee, rr, zz⟩ := rv3.list
    cases f3
    exact .inl ⟨ad, vs, rfl, SqL.of ee, fun p hp => q _ _ (((s1.trans s2).trans s3).trans (same_upd hp)) ((new_lstF hp (rr.cut l1 l2) (Nat.le_trans (cutL_len _ _ _) zz)).back ((s1.trans s2).trans s3))⟩
  | tuple xs => cases f3; cases hf
  | str xs => cases f3; cases hf
  | _ => cases f3
theorem okF_list {a : IE} {e x : Expr} (ha : OkE k defs K S a x) (h : bcall S "list" e = some x) : OkF k defs K S (.o1 .list a) e := by
  obtain ⟨ta, a1, a2⟩ := ha
  obtain ⟨p, q, rfl, h1, h2⟩ := bcall_ok h
  refine ⟨tUn (fun v H Q => ∃ p ys, [v] = [V.ref p] ∧ (SqL K H p ys ∨ SqT K H p ys) ∧ ∀ l, H l = none → Q (.ref l) (upd H l (.lst ys))) ta, fun X g => g.hK ▸ pe_callTy call_list_of (g.gl h1) (g.free _ (by decide +kernel)) boot_list' (pa_cons (a1 X g) pa_nil (star1 h2)) (he := star1 h2), fun σ H env Ps d r e hf H0 s0 Q q => ?_⟩
  simp only [evalE] at e
  obtain ⟨u, e1, e⟩ := bind_split e
  refine a2 σ H env Ps u r e1 H0 s0 _ fun v H1 s1 rv => ?_
  have e : listD u = .ok d := e
  cases u with
  | list xs =>
    obtain ⟨ad, vs, rfl, ee, rr, zz⟩ := rv.list
    cases e
    exact ⟨ad, vs, rfl, .inl (SqL.of ee), fun l hl => q _ _ (s1.trans (same_upd hl)) ((new_lstF hl rr zz).back s1)⟩
  | tuple xs =>
    obtain ⟨ad, vs, rfl, ee, rr, zz⟩ := rv.tuple
    cases e
    exact ⟨ad, vs, rfl, .inr ee, fun l hl => q _ _ (s1.trans (same_upd hl)) ((new_lstF hl rr zz).back s1)⟩
  | _ => cases e
end
end Tq

/-! Tq, part K: the theorem of the expressions. -/
namespace Tq
open PySem L2 Res
section
variable {k : Nat} {defs : Nat → Option FDef} {K : PySem.W.Frag}
theorem fnm_ok {S : Sx} {f : Nat} {n : Str} {l : Nat} (h : (match S.fnm f with | some (m, ar) => decide (m = n) && decide (l = ar) && !(n == ("__debug__" : Str)) | none => false) = true) : ∃ ar, S.fnm f = some (n, ar) ∧ l = ar ∧ (n == ("__debug__" : Str)) = false := by
  cases q : S.fnm f with
  | none => rw [q] at h; cases h
  | some p =>
    obtain ⟨m, ar⟩ := p
    rw [q] at h
    simp only [Bool.and_eq_true, decide_eq_true_eq, Bool.not_eq_true'] at h
    exact ⟨ar, by rw [h.1.1], h.1.2, h.2⟩
theorem okO_of {ie : IE} {S : Sx} {y : Option Expr} (h : (match y with | none => isNon ie | some y' => chkE S ie y') = true) (f : ∀ y', chkE S ie y' = true → OkE k defs K S ie y') : OkO k defs K S ie y := by
  cases y with
  | none => exact okO_none h
  | some e => exact okO_some (f e h)
mutual
theorem soundE : ∀ (ie : IE) (S : Sx) (e : Expr), chkE S ie e = true → OkE k defs K S ie e
  | .bad, S, e, h => okE_bad
  | .var i, S, e, h => okE_var h
  | .non, S, e, h => by
    unfold chkE at h
    split at h <;> first | (cases h; done) | skip
    exact okE_c (v := .non) (d := .none) rfl (fun X => pe_non) (fun env => by simp only [evalE]) fun H => .non
  | .bl b, S, e, h => by
    unfold chkE at h
    split at h <;> first | (cases h; done) | skip
    have h := eq_of_beq h
    subst h
    exact okE_c (v := .bl b) (d := .bool b) rfl (fun X => pe_bl) (fun env => by simp only [evalE]) fun H => .bl b
  | .int i, S, e, h => by
    unfold chkE at h
    split at h <;> first | (cases h; done) | skip
    have h := of_decide_eq_true h
    subst h
    exact okE_c (v := .int i) (d := .int i) rfl (fun X => pe_int) (fun env => by simp only [evalE]) fun H => .int i
  | .str x, S, e, h => by
    unfold chkE at h
    split at h <;> first | (cases h; done) | skip
    simp only [smallStr, Bool.and_eq_true, decide_eq_true_eq] at h
    obtain ⟨rfl, h1, h2⟩ := h
    exact okE_c (v := .str x) (d := .str x) rfl (fun X => pe_str) (fun env => by simp only [evalE]) fun H => .str (Nat.le_of_lt (small1000 h1)) h2
  | .glob x d, S, e, h => by
    unfold chkE at h
    split at h <;> first | (cases h; done) | skip
    simp only [Bool.and_eq_true, Bool.not_eq_true', decide_eq_true_eq] at h
    obtain ⟨⟨⟨rfl, h1⟩, h2⟩, h3⟩ := h
    exact okE_glob h1 h2 h3
  | .dsp ks es, S, e, h => by
    unfold chkE at h
    split at h <;> first | (cases h; done) | skip
    simp only [Bool.and_eq_true, decide_eq_true_eq] at h
    obtain ⟨p1, p2, p3, p4⟩ := soundP es S ks _ _ h.1
    exact OkF.ok (okF_dsp p1 p2 p3 h.2 p4) rfl
  | .tup es, S, e, h => by
    unfold chkE at h
    split at h <;> first | (cases h; done) | skip
    simp only [Bool.and_eq_true, decide_eq_true_eq] at h
    exact okE_tup (soundEs es S _ h.1) h.1 h.2
  | .lst es, S, e, h => by
    unfold chkE at h
    split at h <;> first | (cases h; done) | skip
    simp only [Bool.and_eq_true, decide_eq_true_eq] at h
    exact okE_lst (soundEs es S _ h.1) h.1 h.2
  | .o1 op a, S, e, h => by
    unfold chkE at h
    split at h <;> first | (cases h; done) | skip
    rename_i x q
    exact okE_o1 (soundE a S x h) q
  | .o2 op a b, S, e, h => by
    unfold chkE at h
    split at h <;> first | (cases h; done) | skip
    rename_i x y q
    simp only [Bool.and_eq_true] at h
    exact okE_o2 (soundE a S x h.1) (soundE b S y h.2) q
  | .o3 .sl a b c, S, e, h => by
    unfold chkE at h
    split at h <;> first | (cases h; done) | skip
    rename_i x y z q
    simp only [Bool.and_eq_true] at h
    exact okE_sl (soundE a S x h.1.1) (okO_of h.1.2 fun y' hy => soundE b S y' hy) (okO_of h.2 fun z' hz => soundE c S z' hz) q
  | .o3 .get a b c, S, e, h => by
    unfold chkE at h
    split at h <;> first | (cases h; done) | skip
    rename_i x y z q
    simp only [Bool.and_eq_true, Bool.not_eq_true'] at h
    exact okE_get (soundE a S x h.1.1.1) (soundE b S y h.1.1.2) (soundE c S z h.1.2) h.2 q
  | .o3 .replace _ _ _, S, e, h => by simp [chkE] at h
  | .isi a t, S, e, h => by
    unfold chkE at h
    split at h <;> first | (cases h; done) | skip
    rename_i x q
    exact okE_isi (soundE a S x h) q
  | .and_ a b, S, e, h => by
    unfold chkE at h
    split at h <;> first | (cases h; done) | skip
    rename_i x y q
    simp only [Bool.and_eq_true, Bool.not_eq_true'] at h
    exact okE_and (soundE a S x h.1.1.1) (soundE b S y h.1.1.2) q h.1.2 h.2
  | .or_ a b, S, e, h => by
    unfold chkE at h
    split at h <;> first | (cases h; done) | skip
    rename_i x y q
    simp only [Bool.and_eq_true, Bool.not_eq_true'] at h
    exact okE_or (soundE a S x h.1.1.1) (soundE b S y h.1.1.2) q h.1.2 h.2
  | .ifE c a b, S, e, h => by
    unfold chkE at h
    split at h <;> first | (cases h; done) | skip
    simp only [Bool.and_eq_true, Bool.not_eq_true'] at h
    exact okE_if (soundB c S _ h.1.1.1.1) (soundE a S _ h.1.1.1.2) (soundE b S _ h.1.1.2) h.1.2 h.2
  | .chain o p a b c, S, e, h => by
    unfold chkE at h
    split at h <;> first | (cases h; done) | skip
    simp only [Bool.and_eq_true, decide_eq_true_eq] at h
    exact (okE_chain (soundE a S _ h.1.1.2) (soundE b S _ h.1.2) (soundE c S _ h.2) h.1.1.1.1.1.1 h.1.1.1.1.1.2 h.1.1.1.2).1
  | .call f es, S, e, h => by
    unfold chkE at h
    split at h <;> first | (cases h; done) | skip
    simp only [Bool.and_eq_true] at h
    obtain ⟨ar, h1, h2, h3⟩ := fnm_ok h.1.1
    exact okE_call (soundEs es S _ h.2) h1 h2 h3 h.1.2 h.2
  | .comp t it elt, S, e, h => by
    unfold chkE at h
    split at h <;> first | (cases h; done) | skip
    simp only [Bool.and_eq_true, Bool.not_eq_true'] at h
    obtain ⟨⟨⟨⟨⟨⟨⟨h1, h2⟩, h3⟩, h4⟩, h5⟩, h6⟩, _⟩, _⟩ := h
    exact okE_comp (soundIT it S _ _ h1) (soundE elt _ _ h5) h2 h3 h4 h6
  | .compIf t it c elt, S, e, h => by
    unfold chkE at h
    split at h <;> first | (cases h; done) | skip
    simp only [Bool.and_eq_true, Bool.not_eq_true'] at h
    obtain ⟨⟨⟨⟨⟨⟨⟨⟨h1, h2⟩, h3⟩, h4⟩, hc⟩, h5⟩, h6⟩, _⟩, _⟩ := h
    exact okE_compIf (soundIT it S _ _ h1) (soundB c _ _ hc) (soundE elt _ _ h5) h2 h3 h4 h6
  | .compK j a elt, S, e, h => by
    unfold chkE at h
    split at h <;> first | (cases h; done) | skip
    simp only [Bool.and_eq_true, Bool.not_eq_true'] at h
    obtain ⟨⟨⟨⟨⟨⟨⟨⟨⟨h0, h1⟩, h2⟩, h3⟩, h4⟩, h5⟩, h6⟩, h7⟩, _⟩, _⟩ := h
    cases a <;> first | (cases h0; done) | skip
    exact okE_compK h1 (soundE elt _ _ h6) h2 h3 h4 h5 h7
  | .compKIf j a c elt, S, e, h => by
    unfold chkE at h
    split at h <;> first | (cases h; done) | skip
    simp only [Bool.and_eq_true, Bool.not_eq_true'] at h
    obtain ⟨⟨⟨⟨⟨⟨⟨⟨⟨⟨h0, h1⟩, h2⟩, h3⟩, h4⟩, h5⟩, hc⟩, h6⟩, h7⟩, _⟩, _⟩ := h
    cases a <;> first | (cases h0; done) | skip
    exact okE_compKIf h1 (soundB c _ _ hc) (soundE elt _ _ h6) h2 h3 h4 h5 h7
theorem soundP : ∀ (as : IEs) (S : Sx) (ks : List Str) (keys : List (Option Expr)) (es : List Expr), chkDs S ks as keys es = true → OkP k defs K S ks as keys es ∧ keys.all (·.isSome) = true ∧ keys.length = ks.length ∧ keys.length = es.length
  | .nil, S, [], [], [], _ => ⟨okP_nil, rfl, rfl, rfl⟩
  | .nil, S, [], [], _ :: _, h => by simp [chkDs] at h
  | .nil, S, [], _ :: _, _, h => by simp [chkDs] at h
  | .nil, S, _ :: _, _, _, h => by simp [chkDs] at h
  | .cons _ _, S, [], _, _, h => by simp [chkDs] at h
  | .cons _ _, S, _ :: _, [], _, h => by simp [chkDs] at h
  | .cons _ _, S, _ :: _, _ :: _, [], h => by simp [chkDs] at h
  | .cons a as, S, x :: ks, y :: ys, e :: es, h => by
    simp only [chkDs, Bool.and_eq_true, Bool.not_eq_true'] at h
    obtain ⟨⟨⟨h1, h2⟩, h3⟩, h4⟩ := h
    obtain ⟨p1, p2, p3, p4⟩ := soundP as S ks ys es h4
    unfold keyE at h1
    split at h1
    · simp only [Bool.and_eq_true, decide_eq_true_eq] at h1
      obtain ⟨rfl, hs⟩ := h1
      exact ⟨okP_cons hs (soundE a S e h2) h3 p1, by simp [p2], by simp [p3], by simp [p4]⟩
    · cases h1
theorem soundB : ∀ (ie : IE) (S : Sx) (e : Expr), chkB S ie e = true → OkB k defs K S ie e
  | .bad, S, e, h => okB_bad
  | .o3 .sl a b c, S, e, h => by
    unfold chkB at h
    simp only [Bool.and_eq_true] at h
    obtain ⟨hp, h⟩ := h
    split at h <;> first | (cases h; done) | skip
    rename_i x y z q
    simp only [Bool.and_eq_true] at h
    exact okB_of (okE_sl (soundE a S x h.1.1) (okO_of h.1.2 fun y' hy => soundE b S y' hy) (okO_of h.2 fun z' hz => soundE c S z' hz) q) hp
  | .and_ a b, S, e, h => by
    unfold chkB at h
    split at h <;> first | (cases h; done) | skip
    rename_i x y q
    simp only [Bool.and_eq_true] at h
    exact okB_and (soundB a S x h.1) (soundB b S y h.2) q
  | .or_ a b, S, e, h => by
    unfold chkB at h
    split at h <;> first | (cases h; done) | skip
    rename_i x y q
    simp only [Bool.and_eq_true] at h
    exact okB_or (soundB a S x h.1) (soundB b S y h.2) q
  | .o2 op a b, S, e, h => by
    unfold chkB at h
    split at h
    · split at h <;> first | (cases h; done) | skip
      rename_i x y q
      simp only [Bool.and_eq_true] at h
      exact okB_cmp (soundE a S _ h.1) (soundE b S _ h.2) q
    · simp only [Bool.and_eq_true] at h
      obtain ⟨hp, h⟩ := h
      split at h <;> first | (cases h; done) | skip
      rename_i x y q
      simp only [Bool.and_eq_true] at h
      exact okB_of (okE_o2 (soundE a S x h.1) (soundE b S y h.2) q) hp
  | .chain o p a b c, S, e, h => by
    unfold chkB at h
    split at h <;> first | (cases h; done) | skip
    simp only [Bool.and_eq_true, decide_eq_true_eq] at h
    exact (okE_chain (soundE a S _ h.1.1.2) (soundE b S _ h.1.2) (soundE c S _ h.2) h.1.1.1.1.1.1 h.1.1.1.1.1.2 h.1.1.1.2).2
  | .var i, S, e, h => by
    unfold chkB at h
    split at h <;> first | (cases h; done) | skip
    exact okB_of (okE_var (by unfold chkE; exact h)) rfl
  | .isi a t, S, e, h => by
    unfold chkB at h
    split at h <;> first | (cases h; done) | skip
    rename_i x q
    exact okB_of (okE_isi (soundE a S x h) q) (isiAll_plain q)
  | .call f es, S, e, h => by
    unfold chkB at h
    split at h <;> first | (cases h; done) | skip
    simp only [Bool.and_eq_true] at h
    obtain ⟨ar, h1, h2, h3⟩ := fnm_ok h.1.1
    exact okB_of (okE_call (soundEs es S _ h.2) h1 h2 h3 h.1.2 h.2) rfl
  | .o1 op a, S, e, h => by
    by_cases hn : op = .not
    · subst hn
      unfold chkB at h
      split at h <;> first | (cases h; done) | skip
      exact okB_not (soundB a S _ h)
    · have h' : (plainTest e && (match sh1 S op e with | some x => chkE S a x | none => false)) = true := by
        cases op <;> first | exact absurd rfl hn | (unfold chkB at h; exact h)
      simp only [Bool.and_eq_true] at h'
      obtain ⟨hp, h'⟩ := h'
      split at h' <;> first | (cases h'; done) | skip
      rename_i x q
      exact okB_of (okE_o1 (soundE a S x h') q) hp
  | .non, S, e, h | .bl _, S, e, h | .int _, S, e, h | .str _, S, e, h | .glob _ _, S, e, h | .tup _, S, e, h | .lst _, S, e, h | .dsp _ _, S, e, h | .o3 .get _ _ _, S, e, h | .o3 .replace _ _ _, S, e, h | .ifE _ _ _, S, e, h | .comp _ _ _, S, e, h | .compIf _ _ _ _, S, e, h | .compK _ _ _, S, e, h | .compKIf _ _ _ _, S, e, h => by unfold chkB at h; cases h
theorem soundEs : ∀ (as : IEs) (S : Sx) (es : List Expr), chkEs S as es = true → OkA k defs K S as es
  | .nil, S, [], h => okA_nil
  | .nil, S, _ :: _, h => by simp [chkEs] at h
  | .cons _ _, S, [], h => by simp [chkEs] at h
  | .cons a as, S, e :: es, h => by
    simp only [chkEs, Bool.and_eq_true, Bool.not_eq_true'] at h
    exact okA_cons (soundE a S e h.1.1.2) (soundEs as S es h.2) h.1.1.1 h.1.2
theorem soundIT : ∀ (it : IT) (S : Sx) (tg e : Expr), chkIT S it tg e = true → OkI k defs K S it tg e
  | .seq a, S, tg, e, h => by
    simp only [chkIT, Bool.and_eq_true, Bool.not_eq_true'] at h
    exact okI_seq (soundE a S e h.1) h.2
  | .rng1 a, S, tg, e, h => by
    unfold chkIT at h
    split at h <;> first | (cases h; done) | skip
    rename_i x q
    exact okI_rng1 (soundE a S x h) q
  | .rng2 a b, S, tg, e, h => by
    unfold chkIT at h
    split at h <;> first | (cases h; done) | skip
    rename_i x y q
    simp only [Bool.and_eq_true] at h
    exact okI_rng2 (soundE a S x h.1) (soundE b S y h.2) q
  | .enum a, S, tg, e, h => by
    unfold chkIT at h
    split at h <;> first | (cases h; done) | skip
    rename_i x q
    simp only [Bool.and_eq_true, Bool.not_eq_true'] at h
    exact okI_enum (soundE a S x h.1.2) q h.1.1 h.2
  | .zip a b, S, tg, e, h => by
    unfold chkIT at h
    split at h <;> first | (cases h; done) | skip
    rename_i x y q
    simp only [Bool.and_eq_true, Bool.not_eq_true'] at h
    exact okI_zip (soundE a S x h.1.1.1.2) (soundE b S y h.1.1.2) q h.1.1.1.1 h.1.2 h.2
  | .rev _, S, tg, e, h => by simp [chkIT] at h
end
end
end Tq

/-! Tq, part L: statements. -/
namespace Tq
open PySem L2 Res

def noTup : Expr → Bool
  | .Tuple .. => false
  | _ => true
def isNm : Tg → Bool
  | .nm _ => true
  | _ => false
def lineOf : Expr → Nat := fun e => e.pos.line
/-- a comprehension whose list goes straight to a local name -/
def swB (S : Sx) (x : Str) (px : Pos) (e : Expr) : Bool := match e with
  | .ListComp _ _ scope p => decide (S.sc.names.lookup x = some .local) && (px.line == p.line) && !(scope.names.any fun (n, k) => n == x && (k == .local || k == .cell))
  | _ => false
def dirty (S : Sx) : Sx := { S with M := [] }
/-- makes a new thing -/
def frE : IE → Bool
  | .lst _ => true
  | .o2 .add _ _ => true
  | .o2 .mul _ _ => true
  | .o3 .sl _ _ _ => true
  | .o1 .list _ => true
  | .dsp _ _ => true
  | _ => false
def isComp : IE → Bool
  | .comp _ _ _ => true
  | .compIf _ _ _ _ => true
  | _ => false
def minus (M ms : List Nat) : List Nat := M.filter fun i => !(ms.contains i)
def pubS (S : Sx) (ms : List Nat) : Sx := { S with M := minus S.M ms }
/-- o.m(x): the parts -/
def mcall (m : Str) : Stmt → Option (Str × List Expr)
  | .Expr (.Call (.Attribute (.Name n _) a p) xs [] q) _ => if a = m ∧ (p.endLine == q.line) = true then some (n, xs) else none
  | _ => none
mutual
def chkS (S : Sx) : IS → Stmt → Bool
  | .pass, s => match s with | .Pass _ => true | _ => false
  | .asg t e, s => match s with
    | .Assign [tg] x _ => chkT S t tg && chkE S e x && !(lv S.M e) && (noComp x && (isNm t || noTup x) || isNm t && isComp e && (match tg with | .Name n p => swB S n p x | _ => false))
    | _ => false
  | .par i j a b, s => match s with
    | .Assign [.Tuple [.Name n p, .Name m q] _ _] (.Tuple [x, y] _ _) _ => decide (S.N[i]? = some n) && decide (S.N[j]? = some m) && decide (i ≠ j) && decide (S.sc.names.lookup n = some .local) && decide (S.sc.names.lookup m = some .local) && (p.line == q.line) && !(n == m) &&
        !(S.M.contains i) && !(S.M.contains j) && noStar x && noStar y && chkE S a x && chkE S b y && !(lv S.M a) && !(lv S.M b) && !([x, y].all (foldedForSure 8)) && !([x, y].all (constantsAlone 8))
    | _ => false
  | .bad, _ => true
  | .mset i e, s => match s with
    | .Assign [.Name n p] x _ => locB S i n && S.M.contains i && chkE S e x && (frE e && noComp x || isComp e && swB S n p x)
    | _ => false
  | .app i e, s => match mcall "append" s with
    | some (n, [x]) => visB S i n && S.M.contains i && noStar x && chkE S e x && !(lv S.M e)
    | _ => false
  | .ext i e, s => match mcall "extend" s with
    | some (n, [x]) => visB S i n && S.M.contains i && noStar x && chkE S e x && !(lv S.M e)
    | _ => false
  | .ins i a e, s => match mcall "insert" s with
    | some (n, [y, x]) => visB S i n && S.M.contains i && noStar y && noStar x && chkE S a y && chkE S e x && !(lv S.M e)
    | _ => false
  | .put i a e, s => match s with
    | .Assign [.Subscript (.Name n _) y _] x _ => visB S i n && S.M.contains i && chkE S a y && chkE S e x && !(lv S.M e) && noComp x
    | _ => false
  | .ret e, s => match s with | .Return (some x) _ => chkE (dirty S) e x | _ => false
  | .if_ c a b, s => match s with | .If x y z _ => chkB (dirty S) c x && chkSs S a y && chkSs S b z | _ => false
  | .for_ t it body, s => match s with | .For tg i b [] _ => chkT S t tg && chkIT S it tg i && noSet i && chkSs S body b | _ => false
def chkSs (S : Sx) : ISs → List Stmt → Bool
  | .nil, [] => true
  | .cons a as, s :: ss => chkS S a s && chkSs S as ss
  | .pub ms as, ss => ms.all (fun i => S.M.contains i) && chkSs (pubS S ms) as ss
  | _, _ => false
end

/-! ### the state -/
structure SR (K : PySem.W.Frag) (M : List Nat) (H0 : Hp) (out : List Addr) (H : Hp) (Ps : List Addr) (σ : St) (env : En) : Prop where
  er : EnvR K M H (Ps ++ out) σ env
  ent : Same H0 H
  fr : ∀ p ∈ Ps, H0 p = none
  odom : ∀ q ∈ out, H0 q ≠ none
  own : ∀ (i : Nat) (d : D), M.contains i = true → env[i]? = some (some d) → ∃ p, σ[i]? = some (some (.ref p)) ∧ p ∈ Ps
mutual
theorem put_keep : ∀ {t : Tg} {d : D} {a a' : En}, t.put d a = .ok a' → Out t.slots a' a
  | .nm i, d, a, a', e => by
    cases e
    refine ⟨by simp, fun j hj => List.getElem?_set_ne fun z => hj (by simp [Tg.slots, z])⟩
  | .tu ts, d, a, a', e => by
    cases d with
    | tuple ds => exact puts_keep (t := ts) (ds := ds) e
    | _ => cases e
theorem puts_keep : ∀ {t : Tgs} {ds : List D} {a a' : En}, t.put ds a = .ok a' → Out t.slots a' a
  | .nil, [], a, a', e => by cases e; exact Out.refl _
  | .nil, _ :: _, _, _, e => by simp [Tgs.put] at e
  | .cons _ _, [], _, _, e => by simp [Tgs.put] at e
  | .cons t ts, d :: ds, a, a', e => by
    simp only [Tgs.put] at e
    obtain ⟨a1, e1, e2⟩ := bind_split e
    exact ((puts_keep e2).mono fun i hi => by simp [Tgs.slots, hi]).trans ((put_keep e1).mono fun i hi => by simp [Tgs.slots, hi])
end
mutual
theorem slots_out {S : Sx} : ∀ {t : Tg} {e : Expr}, chkT S t e = true → ∀ i ∈ t.slots, S.M.contains i = false
  | .nm i, e, h => by
    cases e with
    | Name x p =>
      simp only [chkT, Bool.and_eq_true, Bool.not_eq_true'] at h
      intro j hj
      simp only [Tg.slots, List.mem_singleton] at hj
      subst hj
      exact h.2
    | _ => simp [chkT] at h
  | .tu ts, e, h => by
    cases e with
    | Tuple es kk p => exact slotss_out (ts := ts) (es := es) (by simpa [chkT] using h)
    | _ => simp [chkT] at h
theorem slotss_out {S : Sx} : ∀ {ts : Tgs} {es : List Expr}, chkTs S ts es = true → ∀ i ∈ ts.slots, S.M.contains i = false
  | .nil, [], _ => fun i hi => by simp [Tgs.slots] at hi
  | .nil, _ :: _, h => by simp [chkTs] at h
  | .cons _ _, [], h => by simp [chkTs] at h
  | .cons t ts, e :: es, h => by
    simp only [chkTs, Bool.and_eq_true] at h
    intro i hi
    simp only [Tgs.slots, List.mem_append] at hi
    exact hi.elim (slots_out h.1.2 i) (slotss_out h.2 i)
end
section
variable {K : PySem.W.Frag} {M : List Nat} {H0 H H' : Hp} {out Ps Ps' : List Addr} {σ : St} {env : En}
theorem SR.same (r : SR K M H0 out H Ps σ env) (s : Same H H') : SR K M H0 out H' Ps σ env := ⟨r.er.same s, r.ent.trans s, r.fr, r.odom, r.own⟩
theorem SR.view (r : SR K M H0 out H Ps σ env) : Same (hide H (Ps ++ out)) (hide H (Ps ++ out)) := Same.refl _
/-- all slots plain, the caller's places hidden -/
theorem SR.dirty (r : SR K M H0 out H Ps σ env) : EnvR K [] H out σ env where
  get := fun i d e => by
    obtain ⟨v, h1, h2, h3⟩ := r.er.get i d e
    have sub : Same (hide H (Ps ++ out)) (hide H out) := fun a o h => by
      obtain ⟨q1, q2⟩ := hide_some h
      rw [hide_out fun z => q1 (List.mem_append_right _ z)]
      exact q2
    refine ⟨v, h1, .of ?_, fun z => by simp at z⟩
    rcases h2 with h2 | ⟨hb, h2⟩
    · exact h2.mono sub
    · obtain ⟨p, hp, hps⟩ := r.own i d hb e
      rw [h1] at hp
      have hp : v = .ref p := Option.some.inj (Option.some.inj hp)
      subst hp
      cases d with
      | list ds =>
        obtain ⟨p', xs, e1, e2, e3, e4, e5⟩ := h2
        cases e1
        refine .lst ?_ (e4.mono sub) e5
        rw [hide_out fun z => r.odom p z (r.fr p hps)]
        exact e3
      | dict ds =>
        obtain ⟨p', xs, e1, e2, e3, e4, e5⟩ := h2
        cases e1
        refine .dct (.inl ?_) (e4.mono sub) e5
        rw [hide_out fun z => r.odom p z (r.fr p hps)]
        exact e3
      | _ => exact False.elim h2
  inj := fun i j p d e hi _ _ _ _ _ _ => by simp at hi
  dom := fun q hq => r.er.dom q (List.mem_append_right _ hq)
  len := r.er.len
end
/-- what is wanted behind a statement -/
def FlPost (K : PySem.W.Frag) (M : List Nat) (H0 : Hp) (out : List Addr) (H : Hp) (Ps : List Addr) (Dn : Ends) : Fl → Prop
  | .next env' => ∀ σ' H' Ps', Same (hide H (Ps ++ out)) (hide H' (Ps' ++ out)) → SR K M H0 out H' Ps' σ' env' → Dn.nx σ' H'
  | .ret d => ∀ v H', Same H0 H' → Rp K (hide H' out) v d → Dn.rt v H'
theorem FlPost.step {K : PySem.W.Frag} {M : List Nat} {H0 H H1 : Hp} {out Ps Ps1 : List Addr} {Dn : Ends} {fl : Fl} (q : FlPost K M H0 out H Ps Dn fl) (s : Same (hide H (Ps ++ out)) (hide H1 (Ps1 ++ out))) : FlPost K M H0 out H1 Ps1 Dn fl := by
  cases fl with
  | next env' => exact fun σ' H' Ps' s' r' => q σ' H' Ps' (s.trans s') r'
  | ret d => exact q
/-- what a statement comes to -/
def EvS (K : PySem.W.Frag) (M : List Nat) (H0 : Hp) (out : List Addr) (t : TS) (σ : St) (H : Hp) (Ps : List Addr) (fl : Fl) : Prop := ∀ Dn : Ends, FlPost K M H0 out H Ps Dn fl → t Dn σ H
structure GdS (S : Sx) (k : Nat) (defs : Nat → Option FDef) (K : PySem.W.Frag) (X : Cx) : Prop where
  gd : Gd S k defs K X
  pas : PassesOwn (model X.prog X.w) X.A X.env X.xe
  kind : S.sc.kind = .function
section
variable (k : Nat) (defs : Nat → Option FDef) (K : PySem.W.Frag)
def OkS (S : Sx) (is : IS) (st : Stmt) : Prop := ∃ t, (∀ X, GdS S k defs K X → PS X st t) ∧ ∀ H0 out σ H env Ps fl, SR K S.M H0 out H Ps σ env → evalS (callF defs k) is env = .ok fl → EvS K S.M H0 out t σ H Ps fl
def OkSs (S : Sx) (is : ISs) (st : List Stmt) : Prop := ∃ t, (∀ X, GdS S k defs K X → PSs X st t) ∧ ∀ H0 out σ H env Ps fl, SR K S.M H0 out H Ps σ env → evalSs (callF defs k) is env = .ok fl → EvS K S.M H0 out t σ H Ps fl
end
section
variable {k : Nat} {defs : Nat → Option FDef} {K : PySem.W.Frag} {S : Sx}
theorem GdS.dirty {X : Cx} (g : GdS S k defs K X) : Gd (dirty S) k defs K X := ⟨g.gd.hK, g.gd.N, g.gd.nd, g.gd.sc, g.gd.calm, g.gd.room, g.gd.fn, g.gd.free, g.gd.gls, g.gd.glr, g.gd.fns⟩
theorem okS_pass {p : Pos} : OkS k defs K S .pass (.Pass p) := ⟨tNext, fun X _ => ps_pass, fun H0 out σ H env Ps fl r e Dn q => by
  simp only [evalS] at e; cases e
  exact q σ H Ps (Same.refl _) r⟩
theorem okS_ret {ie : IE} {e : Expr} {p : Pos} (h : OkE k defs K (dirty S) ie e) : OkS k defs K S (.ret ie) (.Return (some e) p) := by
  obtain ⟨t, t1, t2⟩ := h
  refine ⟨tRet t, fun X g => ps_ret (t1 X g.dirty), fun H0 out σ H env Ps fl r e Dn q => ?_⟩
  simp only [evalS] at e
  obtain ⟨d, e1, e⟩ := bind_split e
  cases e
  have := t2 σ H env out d r.dirty e1
  have hl : lv (dirty S).M ie = false := by cases ie <;> rfl
  rw [hl] at this
  exact this H (Same.refl _) Dn.rt fun v H1 s1 rv => q v H1 (r.ent.trans s1) rv.clean
theorem okS_if {c : IE} {a b : ISs} {x : Expr} {y z : List Stmt} {p : Pos} (hc : OkB k defs K (dirty S) c x) (ha : OkSs k defs K S a y) (hb : OkSs k defs K S b z) : OkS k defs K S (.if_ c a b) (.If x y z p) := by
  obtain ⟨tc, c1, c2⟩ := hc
  obtain ⟨ta, a1, a2⟩ := ha
  obtain ⟨tb, b1, b2⟩ := hb
  refine ⟨tIfS tc ta tb, fun X g => ps_if (c1 X g.dirty) (a1 X g) (b1 X g), fun H0 out σ H env Ps fl r e Dn q => ?_⟩
  simp only [evalS] at e
  obtain ⟨u, e1, e⟩ := bind_split e
  obtain ⟨t, e2, e⟩ := bind_split e
  refine c2 σ H env out t r.dirty (by rw [e1]; exact e2) H (Same.refl _) _ fun H1 s1 => ?_
  have r1 := r.same s1
  have q1 := q.step (hide_mono s1 (Ps ++ out))
  cases t with
  | true => exact iteT (a2 H0 out σ H1 env Ps fl r1 e Dn q1)
  | false => exact iteF (b2 H0 out σ H1 env Ps fl r1 e Dn q1)
theorem okSs_nil : OkSs k defs K S .nil [] := ⟨tNext, fun X _ => pss_nil, fun H0 out σ H env Ps fl r e Dn q => by
  simp only [evalSs] at e; cases e
  exact q σ H Ps (Same.refl _) r⟩
theorem okSs_cons {a : IS} {as : ISs} {s : Stmt} {ss : List Stmt} (ha : OkS k defs K S a s) (hs : OkSs k defs K S as ss) : OkSs k defs K S (.cons a as) (s :: ss) := by
  obtain ⟨ta, a1, a2⟩ := ha
  obtain ⟨tb, b1, b2⟩ := hs
  refine ⟨tSeq ta tb, fun X g => pss_cons (a1 X g) (b1 X g), fun H0 out σ H env Ps fl r e Dn q => ?_⟩
  simp only [evalSs] at e
  obtain ⟨f1, e1, e⟩ := bind_split e
  refine a2 H0 out σ H env Ps f1 r e1 { Dn with nx := tb Dn } ?_
  cases f1 with
  | next env1 =>
    intro σ1 H1 Ps1 s1 r1
    exact b2 H0 out σ1 H1 env1 Ps1 fl r1 e Dn (q.step s1)
  | ret d =>
    cases e
    exact q
theorem swap_noComp {e : Expr} {t : Option Expr} {l : Nat} {env : Env} (h : noComp e = true) : swapsWith e t l env = pure false := by
  cases e <;> first | rfl | cases h
theorem stores_name {x : Str} {p : Pos} {e : Expr} {env : Env} : swappedStores [.Name x p] e env = pure none := rfl
theorem stores_noTup {t e : Expr} {env : Env} (h : noTup e = true) : swappedStores [t] e env = pure none := by
  cases e <;> first | (cases t <;> rfl) | cases h
theorem swB_ok {x : Str} {px : Pos} {e : Expr} (h : swB S x px e = true) : ∃ elt gs scope p, e = .ListComp elt gs scope p ∧ S.sc.names.lookup x = some .local ∧ (px.line == p.line) = true ∧ (scope.names.any fun (n, k) => n == x && (k == .local || k == .cell)) = false := by
  unfold swB at h
  split at h
  · simp only [Bool.and_eq_true, decide_eq_true_eq, Bool.not_eq_true'] at h
    exact ⟨_, _, _, _, rfl, h.1.1, h.1.2, h.2⟩
  · cases h
/-- a comprehension's list stored as it is made -/
theorem okS_asgLc {i : Nat} {ie : IE} {x : Str} {px p : Pos} {e : Expr} (hp : ∃ t, (∀ X, GdS S k defs K X → PS X (.Assign [.Name x px] e p) (tAsg t (gName i))) ∧ ∀ σ H env Ps d, EnvR K S.M H Ps σ env → evalE (callF defs k) ie env = .ok d → EvD K t σ H Ps false d) (hm : S.M.contains i = false) :
    OkS k defs K S (.asg (.nm i) ie) (.Assign [.Name x px] e p) := by
  obtain ⟨t, t1, t2⟩ := hp
  refine ⟨tAsg t (gName i), t1, fun H0 out σ H env Ps fl r e Dn q => ?_⟩
  simp only [evalS] at e
  obtain ⟨d, e1, e⟩ := bind_split e
  obtain ⟨env', e2, e⟩ := bind_split e
  cases e
  cases e2
  refine t2 σ H env (Ps ++ out) d r.er e1 H (Same.refl _) _ fun v H1 s1 rv => ?_
  have r1 := r.same s1
  refine q _ H1 Ps (hide_mono s1 _) ⟨r1.er.set hm rv.clean, r1.ent, r1.fr, r1.odom, fun j d' hj he => ?_⟩
  have ne : i ≠ j := fun z => by subst z; rw [hm] at hj; cases hj
  rw [List.getElem?_set_ne ne] at he ⊢
  exact r1.own j d' hj he
theorem okS_asg {t : Tg} {ie : IE} {tg e : Expr} {p : Pos} (h : OkE k defs K S ie e) (ht : chkT S t tg = true) (hl : lv S.M ie = false) (hs : noComp e = true) (hw : ∀ env, swappedStores [tg] e env = pure none) (hst : noStar tg = true) : OkS k defs K S (.asg t ie) (.Assign [tg] e p) := by
  obtain ⟨te, t1, t2⟩ := h
  refine ⟨tAsg te (tgR K t), fun X g => ps_asg (t1 X g.gd) (tg_pg g.gd ht) (swap_noComp hs) (hw _) (by rw [asg_star hst]; rfl), fun H0 out σ H env Ps fl r e Dn q => ?_⟩
  simp only [evalS] at e
  obtain ⟨d, e1, e⟩ := bind_split e
  obtain ⟨env', e2, e⟩ := bind_split e
  cases e
  have := t2 σ H env (Ps ++ out) d r.er e1
  rw [hl] at this
  refine this H (Same.refl _) _ fun v H1 s1 rv => ?_
  have r1 := r.same s1
  refine tg_ok ht v σ H1 (Ps ++ out) env env' d _ r1.er rv.clean e2 fun σ' ou r2 => ?_
  refine q σ' H1 Ps (hide_mono s1 _) ⟨r2, r1.ent, r1.fr, r1.odom, fun j d' hj he => ?_⟩
  have nj : j ∉ t.slots := fun z => by rw [slots_out ht j z] at hj; cases hj
  rw [(put_keep e2).2 j nj] at he
  rw [ou.2 j nj]
  exact r1.own j d' hj he
theorem okS_par {i j : Nat} {a b : IE} {n m : Str} {x y : Expr} {p1 p2 p3 p4 p : Pos} {k1 k2 : Nat} (ha : OkE k defs K S a x) (hb : OkE k defs K S b y) (la : lv S.M a = false) (lb : lv S.M b = false) (sx : noStar x = true) (sy : noStar y = true)
    (hi : S.N[i]? = some n) (hj : S.N[j]? = some m) (hij : i ≠ j) (ln : S.sc.names.lookup n = some .local) (lm : S.sc.names.lookup m = some .local) (hline : (p1.line == p2.line) = true) (hnm : (n == m) = false)
    (mi : S.M.contains i = false) (mj : S.M.contains j = false) (hf : ([x, y].all (foldedForSure 8)) = false) (hcc : ([x, y].all (constantsAlone 8)) = false) (hk : S.sc.kind = .function) :
    OkS k defs K S (.par i j a b) (.Assign [.Tuple [.Name n p1, .Name m p2] k1 p3] (.Tuple [x, y] k2 p4) p) := by
  obtain ⟨ta, a1, a2⟩ := ha
  obtain ⟨tb, b1, b2⟩ := hb
  refine ⟨tPar i j (tCons ta (tCons tb tNil)), fun X g => ?_, fun H0 out σ H env Ps fl r e Dn q => ?_⟩
  · have kn : X.env.scope.names.lookup n = some .local := by rw [g.gd.sc]; exact ln
    have km : X.env.scope.names.lookup m = some .local := by rw [g.gd.sc]; exact lm
    refine ps_par g.gd.calm (by rw [g.gd.N]; exact g.gd.nd) (by rw [g.gd.N]; exact hi) (by rw [g.gd.N]; exact hj) hij kn km (pa_cons (a1 X g.gd) (pa_cons (b1 X g.gd) pa_nil (star1 sy)) (star1 sx)) ?_ rfl
    have bk : X.env.blockKind = .function := by
      unfold Env.blockKind
      rw [g.gd.sc, hk]; rfl
    have kn' : X.env.kindOf n = some .local := kn
    have km' : X.env.kindOf m = some .local := km
    have hl1 : (p1.line == p1.line) = true := by simp
    have hl2 : (p2.line == p1.line) = true := by
      have := eq_of_beq hline
      rw [this]; simp
    have nm' : (m == n) = false := by
      rw [beq_eq_false_iff_ne] at hnm ⊢
      exact Ne.symm hnm
    have ll : (some NameKind.local == some NameKind.local && true) = true := rfl
    unfold swappedStores
    simp only [List.length_cons, List.length_nil, bk, List.head?_cons, Option.map_some, Option.getD_some, Expr.pos, List.filterMap_cons, List.filterMap_nil, kn', km', hl1, hl2, hf, hcc, ll, if_true]
    refine (if_neg (by decide)).trans ?_
    refine (if_neg ?_).trans ?_
    · intro h
      simp only [List.any_cons, List.any_nil, Bool.or_false, Bool.or_eq_true] at h
      rcases h with h | h
      · split at h
        · cases sx
        · cases h
      · split at h
        · cases sy
        · cases h
    refine (if_neg ?_).trans ?_
    · intro h
      simp only [List.eraseDups_cons, List.eraseDups_nil, List.filter_cons, List.filter_nil, nm', Bool.not_false, if_true, List.length_cons, List.length_nil] at h
      exact absurd h (by decide)
    rfl
  · simp only [evalS] at e
    obtain ⟨u, e1, e⟩ := bind_split e
    obtain ⟨w, e2, e⟩ := bind_split e
    cases e
    have ha := a2 σ H env (Ps ++ out) u r.er e1
    rw [la] at ha
    refine ha H (Same.refl _) _ fun v H1 s1 rv => ?_
    have hb := b2 σ H env (Ps ++ out) w r.er e2
    rw [lb] at hb
    refine hb H1 s1 _ fun v2 H2 s2 rv2 => ⟨v, v2, rfl, ?_⟩
    have r2 := r.same (s1.trans s2)
    refine q _ H2 Ps (hide_mono (s1.trans s2) _) ⟨(r2.er.set mi (rv.clean.mono (hide_mono s2 _))).set mj rv2.clean, r2.ent, r2.fr, r2.odom, fun l d' hl he => ?_⟩
    have n1 : i ≠ l := fun z => by subst z; rw [mi] at hl; cases hl
    have n2 : j ≠ l := fun z => by subst z; rw [mj] at hl; cases hl
    rw [List.getElem?_set_ne n2, List.getElem?_set_ne n1] at he ⊢
    exact r2.own l d' hl he
theorem okS_for {t : Tg} {it : IT} {body : ISs} {tg i : Expr} {b : List Stmt} {p : Pos} (hi : OkI k defs K S it tg i) (hb : OkSs k defs K S body b) (ht : chkT S t tg = true) (hset : noSet i = true) : OkS k defs K S (.for_ t it body) (.For tg i b [] p) := by
  obtain ⟨wi, i1, i2⟩ := hi
  obtain ⟨tb, b1, b2⟩ := hb
  refine ⟨tFor wi (tgR K t) tb, fun X g => ps_for g.pas g.gd.calm (i1 X g.gd) (tg_pg g.gd ht) (b1 X g) (fun v => fold_plain hset v), fun H0 out σ H env Ps fl r e Dn q => ?_⟩
  simp only [evalS] at e
  obtain ⟨ds, e1, e⟩ := bind_split e
  refine i2 σ H env (Ps ++ out) ds r.er e1 H (Same.refl _) _ fun J H1 s1 itk => ?_
  obtain ⟨z, G, Y, w, stab, yl⟩ := itk
  generalize hf : (fun d e => (t.put d e).bind fun e' => evalSs (callF defs k) body e') = f at e
  refine for_it w (fun i σi Hi => ∃ envi Psi, SR K S.M H0 out Hi Psi σi envi ∧ Same (hide H1 (Ps ++ out)) (hide Hi (Psi ++ out)) ∧ forD f (ds.drop i) envi = .ok fl) ?_ ?_ ?_ ?_
  · exact ⟨env, Ps, r.same s1, Same.refl _, by simpa using e⟩
  · rintro i σi Hi hle ⟨envi, Psi, ri, si, _⟩
    exact stab _ Hi si
  · rintro i x σi Hi H' hlt ⟨envi, Psi, ri, si, ei⟩ y
    obtain ⟨s2, d, hd, rx⟩ := yl i (Psi ++ out) Hi x H' hlt si ri.er.dom y
    have hdrop : ds.drop i = d :: ds.drop (i + 1) := by
      have hlt' : i < ds.length := hlt
      rw [List.drop_eq_getElem_cons hlt']
      have : ds[i] = d := by
        rw [List.getElem?_eq_getElem hlt'] at hd
        exact Option.some.inj hd
      rw [this]
    rw [hdrop] at ei
    simp only [forD] at ei
    obtain ⟨fr, ef, ei⟩ := bind_split ei
    rw [← hf] at ef
    obtain ⟨env', ep, eb⟩ := bind_split ef
    have ri' := ri.same s2
    refine tg_ok ht x σi H' (Psi ++ out) envi env' d _ ri'.er rx ep fun σ2 ou r2 => ?_
    have rs : SR K S.M H0 out H' Psi σ2 env' := ⟨r2, ri'.ent, ri'.fr, ri'.odom, fun j d' hj he => by
      have nj : j ∉ t.slots := fun z => by rw [slots_out ht j z] at hj; cases hj
      rw [(put_keep ep).2 j nj] at he
      rw [ou.2 j nj]
      exact ri'.own j d' hj he⟩
    refine b2 H0 out σ2 H' env' Psi fr rs eb _ ?_
    cases fr with
    | next e2 => exact fun σ3 H3 Ps3 s3 r3 => ⟨e2, Ps3, r3, (si.trans (hide_mono s2 _)).trans s3, ei⟩
    | ret dd =>
      cases ei
      exact q
  · rintro σn Hn ⟨envn, Psn, rn, sn, en⟩
    rw [List.drop_length] at en
    simp only [forD] at en
    cases en
    exact q σn Hn Psn ((hide_mono s1 _).trans sn) rn
end
end Tq

/-! Tq, part W: things that a def changes. -/
namespace Tq
open PySem L2 Res
section
variable {K : PySem.W.Frag} {M : List Nat} {H0 H H' : Hp} {out Ps Ps' : List Addr} {σ : St} {env : En}
/-- what stands in a slot of one's own -/
theorem SR.priv (r : SR K M H0 out H Ps σ env) {i : Nat} {d : D} (hm : M.contains i = true) (he : env[i]? = some (some d)) : ∃ p, σ[i]? = some (some (.ref p)) ∧ p ∈ Ps ∧ Pv K H (Ps ++ out) (.ref p) d := by
  obtain ⟨v, h1, _, h3⟩ := r.er.get i d he
  obtain ⟨p, h4, h5⟩ := r.own i d hm he
  rw [h1] at h4
  cases h4
  exact ⟨p, h1, h5, h3 hm⟩
theorem Pv.other {v : V} {d : D} {Qs : List Addr} {p : Addr} {o : HO} (h : Pv K H Qs v d) (hp : p ∈ Qs) (ne : v ≠ .ref p) : Pv K (upd H p o) Qs v d := by
  cases d with
  | list ds =>
    obtain ⟨q, xs, rfl, hq, e, r, z⟩ := h
    exact ⟨q, xs, rfl, hq, by rw [upd_ne (fun z => ne (by rw [z]))]; exact e, by rw [hide_upd_in hp]; exact r, z⟩
  | dict ds =>
    obtain ⟨q, xs, rfl, hq, e, r, z⟩ := h
    exact ⟨q, xs, rfl, hq, by rw [upd_ne (fun z => ne (by rw [z]))]; exact e, by rw [hide_upd_in hp]; exact r, z⟩
  | _ => exact False.elim h
/-- it is changed -/
theorem SR.write (r : SR K M H0 out H Ps σ env) {i : Nat} {d d' : D} {p : Addr} {o : HO} (hm : M.contains i = true) (he : env[i]? = some (some d)) (hs : σ[i]? = some (some (.ref p))) (hp : p ∈ Ps) (hv : Pv K (upd H p o) (Ps ++ out) (.ref p) d') :
    SR K M H0 out (upd H p o) Ps σ (env.set i (some d')) where
  er := {
    get := fun j e h => by
      have hpo : p ∈ Ps ++ out := List.mem_append_left _ hp
      by_cases hj : i = j
      · subst hj
        have hl : i < env.length := by
          by_cases hl : i < env.length
          · exact hl
          · rw [List.getElem?_eq_none (by omega)] at he; cases he
        rw [List.getElem?_set_self hl] at h
        cases h
        exact ⟨_, hs, .inr ⟨hm, hv⟩, fun _ => hv⟩
      · rw [List.getElem?_set_ne hj] at h
        obtain ⟨v, h1, h2, h3⟩ := r.er.get j e h
        refine ⟨v, h1, ?_, fun z => ?_⟩
        · rcases h2 with h2 | ⟨hb, h2⟩
          · exact .inl (by rw [hide_upd_in hpo]; exact h2)
          · refine .inr ⟨hb, h2.other hpo fun z => ?_⟩
            subst z
            exact r.er.inj i j p d e hm hb hj he h hs h1
        · refine (h3 z).other hpo fun zz => ?_
          subst zz
          exact r.er.inj i j p d e hm z hj he h hs h1
    inj := fun a b q d1 e1 ha hb hab h1 h2 h3 h4 => by
      have f : ∀ j x, (env.set i (some d'))[j]? = some (some x) → ∃ y, env[j]? = some (some y) := fun j x h => by
        by_cases hj : i = j
        · subst hj; exact ⟨d, he⟩
        · rw [List.getElem?_set_ne hj] at h; exact ⟨x, h⟩
      obtain ⟨y1, g1⟩ := f a d1 h1
      obtain ⟨y2, g2⟩ := f b e1 h2
      exact r.er.inj a b q y1 y2 ha hb hab g1 g2 h3 h4
    dom := fun q hq z => by
      by_cases e : q = p
      · subst e; rw [upd_same] at z; cases z
      · rw [upd_ne e] at z; exact r.er.dom q hq z
    len := by rw [List.length_set]; exact r.er.len }
  ent := fun a u h => by rw [upd_ne (ne_of_none h (r.fr p hp))]; exact r.ent a u h
  fr := r.fr
  odom := r.odom
  own := fun j e hj h => by
    by_cases hij : i = j
    · subst hij; exact ⟨p, hs, hp⟩
    · rw [List.getElem?_set_ne hij] at h
      exact r.own j e hj h
theorem hide_write {p : Addr} {o : HO} (hp : p ∈ Ps) : Same (hide H (Ps ++ out)) (hide (upd H p o) (Ps ++ out)) := by
  rw [hide_upd_in (List.mem_append_left _ hp)]
  exact Same.refl _
/-- a new thing to a slot -/
theorem SR.fresh (r : SR K M H0 out H Ps σ env) {i : Nat} {d : D} {v : V} (hm : M.contains i = true) (s : Same H H') (f : Fr K H H' (Ps ++ out) v d) : ∃ p, SR K M H0 out H' (p :: Ps) (σ.set i (some v)) (env.set i (some d)) ∧ Same (hide H (Ps ++ out)) (hide H' (p :: Ps ++ out)) := by
  have all : ∃ p, v = .ref p ∧ H p = none ∧ H' p ≠ none ∧ Pv K H' (p :: Ps ++ out) v d := by
    cases d with
    | list ds =>
      obtain ⟨p, xs, rfl, h1, h2, h3, h4⟩ := f
      exact ⟨p, rfl, h1, by rw [h2]; simp, p, xs, rfl, by simp, h2, h3, h4⟩
    | dict kvs =>
      obtain ⟨p, xs, rfl, h1, h2, h3, h4⟩ := f
      exact ⟨p, rfl, h1, by rw [h2]; simp, p, xs, rfl, by simp, h2, h3, h4⟩
    | _ => exact False.elim f
  obtain ⟨p, rfl, h1, h2, h3⟩ := all
  have view : Same (hide H (Ps ++ out)) (hide H' (p :: Ps ++ out)) := fun a o h => by
    obtain ⟨q1, q2⟩ := hide_some h
    have ne : a ≠ p := ne_of_none q2 h1
    rw [hide_out (by simp only [List.cons_append, List.mem_cons, not_or]; exact ⟨ne, q1⟩)]
    exact s _ _ q2
  have kp : Keep (Ps ++ out) H (p :: Ps ++ out) H' := {
    view := view
    priv := fun q hq => ⟨List.mem_cons_of_mem _ hq, by
      cases e : H q with
      | none => exact absurd e (r.er.dom q hq)
      | some o => exact s _ _ e⟩
    dom := fun q hq z => by
      rcases List.mem_cons.mp hq with rfl | hq
      · exact h2 z
      · exact r.er.dom q hq (s.free z) }
  have r' := r.er.keep kp
  refine ⟨p, ⟨⟨fun j e h => ?_, fun a b q d1 e1 ha hb hab g1 g2 g3 g4 => ?_, r'.dom, by simp [r'.len]⟩, r.ent.trans s, fun q hq => ?_, r.odom, fun j e hj h => ?_⟩, view⟩
  · by_cases hj : i = j
    · subst hj
      by_cases hl : i < env.length
      · rw [List.getElem?_set_self hl] at h
        cases h
        exact ⟨_, List.getElem?_set_self (by rw [r'.len]; exact hl), .inr ⟨hm, h3⟩, fun _ => h3⟩
      · rw [List.getElem?_eq_none (by simpa using hl)] at h; cases h
    · rw [List.getElem?_set_ne hj] at h ⊢
      exact r'.get j e h
  · -- two slots, one place
    have old : ∀ j x, i ≠ j → M.contains j = true → (env.set i (some d))[j]? = some (some x) → (σ.set i (some (.ref p)))[j]? ≠ some (some (.ref p)) := fun j x hj hmj g z => by
      rw [List.getElem?_set_ne hj] at g z
      obtain ⟨q', w1, w2⟩ := r.own j x hmj g
      rw [z] at w1
      cases w1
      exact r.er.dom p (List.mem_append_left _ w2) h1
    by_cases ia : i = a
    · subst ia
      have e3 : q = p := by
        by_cases hl : i < σ.length
        · rw [List.getElem?_set_self hl] at g3; cases g3; rfl
        · rw [List.getElem?_eq_none (by simpa using hl)] at g3; cases g3
      subst e3
      exact old b e1 hab hb g2 g4
    · by_cases ib : i = b
      · subst ib
        have e3 : q = p := by
          by_cases hl : i < σ.length
          · rw [List.getElem?_set_self hl] at g4; cases g4; rfl
          · rw [List.getElem?_eq_none (by simpa using hl)] at g4; cases g4
        subst e3
        exact old a d1 ia ha g1 g3
      · rw [List.getElem?_set_ne ia] at g1 g3
        rw [List.getElem?_set_ne ib] at g2 g4
        exact r'.inj a b q d1 e1 ha hb hab g1 g2 g3 g4
  · rcases List.mem_cons.mp hq with rfl | hq
    · exact r.ent.free h1
    · exact r.fr q hq
  · by_cases hij : i = j
    · subst hij
      by_cases hl : i < σ.length
      · exact ⟨p, List.getElem?_set_self hl, List.mem_cons_self⟩
      · rw [List.getElem?_eq_none (by rw [List.length_set, ← r'.len]; omega)] at h; cases h
    · rw [List.getElem?_set_ne hij] at h ⊢
      obtain ⟨q, w1, w2⟩ := r.own j e hj h
      exact ⟨q, w1, List.mem_cons_of_mem _ w2⟩
/-! ### from one's own to all -/
def isLive (env : En) (i : Nat) : Bool := match env[i]? with
  | some (some _) => true
  | _ => false
def keptPs (σ : St) (env : En) (ms : List Nat) (Ps : List Addr) : List Addr := Ps.filter fun p => !(ms.any fun i => isLive env i && decide (σ[i]? = some (some (V.ref p))))
theorem mem_kept {ms : List Nat} {p : Addr} : p ∈ keptPs σ env ms Ps ↔ p ∈ Ps ∧ ∀ i ∈ ms, isLive env i = true → σ[i]? ≠ some (some (V.ref p)) := by
  unfold keptPs
  rw [List.mem_filter]
  simp only [Bool.not_eq_true', List.any_eq_false, Bool.and_eq_true, decide_eq_true_eq, not_and]
theorem live_of {i : Nat} {d : D} (h : env[i]? = some (some d)) : isLive env i = true := by
  unfold isLive; rw [h]
theorem of_live {i : Nat} (h : isLive env i = true) : ∃ d, env[i]? = some (some d) := by
  unfold isLive at h
  split at h
  · exact ⟨_, by assumption⟩
  · cases h
theorem minus_in {ms : List Nat} {i : Nat} : (minus M ms).contains i = true ↔ M.contains i = true ∧ i ∉ ms := by
  unfold minus
  rw [List.contains_iff_mem, List.mem_filter, List.contains_iff_mem]
  simp
theorem SR.pub (r : SR K M H0 out H Ps σ env) {ms : List Nat} (hms : ∀ i ∈ ms, M.contains i = true) : SR K (minus M ms) H0 out H (keptPs σ env ms Ps) σ env ∧ Same (hide H (Ps ++ out)) (hide H (keptPs σ env ms Ps ++ out)) := by
  have sub : ∀ q, q ∈ keptPs σ env ms Ps ++ out → q ∈ Ps ++ out := fun q hq => by
    rcases List.mem_append.mp hq with h | h
    · exact List.mem_append_left _ (mem_kept.mp h).1
    · exact List.mem_append_right _ h
  have view : Same (hide H (Ps ++ out)) (hide H (keptPs σ env ms Ps ++ out)) := fun a o h => by
    obtain ⟨q1, q2⟩ := hide_some h
    rw [hide_out fun z => q1 (sub a z)]
    exact q2
  have keep : ∀ j d p, M.contains j = true → j ∉ ms → env[j]? = some (some d) → σ[j]? = some (some (V.ref p)) → p ∈ Ps → p ∈ keptPs σ env ms Ps := fun j d p hj hn he hs hp => by
    refine mem_kept.mpr ⟨hp, fun i hi hl z => ?_⟩
    obtain ⟨d', hd'⟩ := of_live hl
    exact r.er.inj i j p d' d (hms i hi) hj (fun e => hn (e ▸ hi)) hd' he z hs
  refine ⟨⟨⟨fun j d he => ?_, fun a b q d1 e1 ha hb hab g1 g2 g3 g4 => r.er.inj a b q d1 e1 (minus_in.mp ha).1 (minus_in.mp hb).1 hab g1 g2 g3 g4, fun q hq => r.er.dom q (sub q hq), r.er.len⟩, r.ent, fun q hq => r.fr q (mem_kept.mp hq).1, r.odom, fun j d hj he => ?_⟩, view⟩
  · obtain ⟨v, h1, h2, h3⟩ := r.er.get j d he
    by_cases hj : M.contains j = true
    · obtain ⟨p, h4, h5⟩ := r.own j d hj he
      rw [h1] at h4
      cases h4
      have pv := h3 hj
      by_cases hn : j ∈ ms
      · have nc : (minus M ms).contains j = false := by
          cases q : (minus M ms).contains j with
          | false => rfl
          | true => exact absurd hn (minus_in.mp q).2
        have np : p ∉ keptPs σ env ms Ps ++ out := fun z => by
          rcases List.mem_append.mp z with z | z
          · exact (mem_kept.mp z).2 j hn (live_of he) h1
          · exact r.odom p z (r.fr p h5)
        refine ⟨_, h1, .inl ?_, fun z => by rw [nc] at z; cases z⟩
        cases d with
        | list ds =>
          obtain ⟨q, xs, e1, hq, e, rr, z⟩ := pv
          cases e1
          exact .lst (by rw [hide_out np]; exact e) (rr.mono view) z
        | dict ds =>
          obtain ⟨q, xs, e1, hq, e, rr, z⟩ := pv
          cases e1
          exact .dct (.inl (by rw [hide_out np]; exact e)) (rr.mono view) z
        | _ => exact False.elim pv
      · have yc : (minus M ms).contains j = true := minus_in.mpr ⟨hj, hn⟩
        have pk : p ∈ keptPs σ env ms Ps ++ out := List.mem_append_left _ (keep j d p hj hn he h1 h5)
        have pv' : Pv K H (keptPs σ env ms Ps ++ out) (.ref p) d := by
          cases d with
          | list ds =>
            obtain ⟨q, xs, e1, hq, e, rr, z⟩ := pv
            cases e1
            exact ⟨p, xs, rfl, pk, e, rr.mono view, z⟩
          | dict ds =>
            obtain ⟨q, xs, e1, hq, e, rr, z⟩ := pv
            cases e1
            exact ⟨p, xs, rfl, pk, e, rr.mono view, z⟩
          | _ => exact False.elim pv
        exact ⟨_, h1, .inr ⟨yc, pv'⟩, fun _ => pv'⟩
    · have nc : (minus M ms).contains j = false := by
        cases q : (minus M ms).contains j with
        | false => rfl
        | true => exact absurd (minus_in.mp q).1 hj
      refine ⟨v, h1, .inl ?_, fun z => by rw [nc] at z; cases z⟩
      rcases h2 with h2 | ⟨hb, _⟩
      · exact h2.mono view
      · exact absurd hb hj
  · obtain ⟨h6, h7⟩ := minus_in.mp hj
    obtain ⟨p, h4, h5⟩ := r.own j d h6 he
    exact ⟨p, h4, keep j d p h6 h7 he h4 h5⟩
theorem dropE_len (env : En) : ∀ ms, (dropE env ms).length = env.length
  | [] => rfl
  | v :: vs => by unfold dropE; rw [List.length_set, dropE_len env vs]
theorem dropE_some {i : Nat} {x : D} : ∀ {ms : List Nat}, (dropE env ms)[i]? = some (some x) → env[i]? = some (some x) ∧ i ∉ ms
  | [], h => ⟨h, by simp⟩
  | v :: vs, h => by
    unfold dropE at h
    by_cases hi : v = i
    · subst hi
      by_cases hv : v < (dropE env vs).length
      · rw [List.getElem?_set_self hv] at h; cases h
      · rw [List.getElem?_eq_none (by simpa using hv)] at h; cases h
    · rw [List.getElem?_set_ne hi] at h
      obtain ⟨h1, h2⟩ := dropE_some h
      exact ⟨h1, by simp only [List.mem_cons, not_or]; exact ⟨fun e => hi e.symm, h2⟩⟩
theorem SR.drop {ms : List Nat} (r : SR K (minus M ms) H0 out H Ps σ env) : SR K M H0 out H Ps σ (dropE env ms) where
  er := {
    get := fun j d he => by
      obtain ⟨h1, h2⟩ := dropE_some he
      obtain ⟨v, g1, g2, g3⟩ := r.er.get j d h1
      have e : (minus M ms).contains j = M.contains j := by
        cases q : M.contains j with
        | true => exact minus_in.mpr ⟨q, h2⟩
        | false =>
          cases q2 : (minus M ms).contains j with
          | false => rfl
          | true => rw [(minus_in.mp q2).1] at q; cases q
      rw [e] at g2 g3
      exact ⟨v, g1, g2, g3⟩
    inj := fun a b q d1 e1 ha hb hab g1 g2 g3 g4 => by
      obtain ⟨a1, a2⟩ := dropE_some g1
      obtain ⟨b1, b2⟩ := dropE_some g2
      exact r.er.inj a b q d1 e1 (minus_in.mpr ⟨ha, a2⟩) (minus_in.mpr ⟨hb, b2⟩) hab a1 b1 g3 g4
    dom := r.er.dom
    len := by rw [dropE_len]; exact r.er.len }
  ent := r.ent
  fr := r.fr
  odom := r.odom
  own := fun j d hj he => by
    obtain ⟨h1, h2⟩ := dropE_some he
    exact r.own j d (minus_in.mpr ⟨hj, h2⟩) h1
end
section
variable {k : Nat} {defs : Nat → Option FDef} {K : PySem.W.Frag} {S : Sx}
theorem GdS.pub {X : Cx} {ms : List Nat} (g : GdS S k defs K X) : GdS (pubS S ms) k defs K X := ⟨⟨g.gd.hK, g.gd.N, g.gd.nd, g.gd.sc, g.gd.calm, g.gd.room, g.gd.fn, g.gd.free, g.gd.gls, g.gd.glr, g.gd.fns⟩, g.pas, g.kind⟩
theorem okSs_pub {ms : List Nat} {as : ISs} {ss : List Stmt} (hms : ∀ i ∈ ms, S.M.contains i = true) (h : OkSs k defs K (pubS S ms) as ss) : OkSs k defs K S (.pub ms as) ss := by
  obtain ⟨t, t1, t2⟩ := h
  refine ⟨t, fun X g => t1 X g.pub, fun H0 out σ H env Ps fl r e Dn q => ?_⟩
  simp only [evalSs] at e
  obtain ⟨f1, e1, e⟩ := bind_split e
  obtain ⟨r', view⟩ := r.pub hms
  refine t2 H0 out σ H env _ f1 r' e1 Dn ?_
  cases f1 with
  | next env1 =>
    cases e
    intro σ1 H1 Ps1 s1 r1
    exact q σ1 H1 Ps1 (view.trans s1) (SR.drop r1)
  | ret d =>
    cases e
    exact q
theorem okS_bad {st : Stmt} : OkS k defs K S .bad st := ⟨fun _ _ _ => False, fun X g => ⟨fun _ _ _ _ _ _ h => False.elim h⟩, fun H0 out σ H env Ps fl r e => by simp only [evalS] at e; cases e⟩
/-- a new thing to a name -/
theorem okS_mset {i : Nat} {ie : IE} {st : Stmt} (hm : S.M.contains i = true) (hp : ∃ t, (∀ X, GdS S k defs K X → PS X st (tAsg t (gName i))) ∧ ∀ σ H env Ps d, EnvR K S.M H Ps σ env → evalE (callF defs k) ie env = .ok d → freshD d = true → EvF K t σ H Ps d) : OkS k defs K S (.mset i ie) st := by
  obtain ⟨t, t1, t2⟩ := hp
  refine ⟨tAsg t (gName i), t1, fun H0 out σ H env Ps fl r e Dn q => ?_⟩
  simp only [evalS] at e
  obtain ⟨d, e1, e⟩ := bind_split e
  unfold msetD at e
  split at e
  · rename_i hf
    cases e
    refine t2 σ H env (Ps ++ out) d r.er e1 hf H (Same.refl _) _ fun v H1 s1 f => ?_
    obtain ⟨p, r1, view⟩ := r.fresh hm s1 f
    exact q _ H1 (p :: Ps) view r1
  · cases e
theorem okF_mset {i : Nat} {ie : IE} {n : Str} {p pn : Pos} {e : Expr} (hm : S.M.contains i = true) (hl : locB S i n = true) (h : OkF k defs K S ie e) (hc : noComp e = true) : OkS k defs K S (.mset i ie) (.Assign [.Name n pn] e p) := by
  obtain ⟨t, t1, t2⟩ := h
  refine okS_mset hm ⟨t, fun X g => ?_, t2⟩
  obtain ⟨l1, l2, l3⟩ := g.gd.loc hl
  exact ps_asg (t1 X g.gd) (pg_name (by rw [g.gd.N]; exact g.gd.nd) l1 l2 l3) (show swapsWith e (some (.Name n pn)) p.line X.env = pure false from swap_noComp hc) stores_name rfl
theorem mcall_ok {m n : Str} {st : Stmt} {xs : List Expr} (h : mcall m st = some (n, xs)) : ∃ p0 p q p2, st = .Expr (.Call (.Attribute (.Name n p0) m p) xs [] q) p2 ∧ (p.endLine == q.line) = true := by
  unfold mcall at h
  split at h
  · split at h
    · rename_i hc
      cases h
      obtain ⟨rfl, h1⟩ := hc
      exact ⟨_, _, _, _, rfl, h1⟩
    · cases h
  · cases h
theorem few1 {X : Cx} {x : Expr} {q : Pos} (h : noStar x = true) : ((backTo q (starEach [x] X.env)).all (fun x => !x.1) && (backToKw q (keywordEach [] X.env)).all (fun x => x.1.isSome) && decide (([x] : List Expr).length + ([] : List Keyword).length + (if ([] : List Keyword).isEmpty then 0 else 1) < 30)) = true := by
  rw [star1 h]; rfl
theorem few2 {X : Cx} {y x : Expr} {q : Pos} (h' : noStar y = true) (h : noStar x = true) : ((backTo q (starEach [y, x] X.env)).all (fun x => !x.1) && (backToKw q (keywordEach [] X.env)).all (fun x => x.1.isSome) && decide (([y, x] : List Expr).length + ([] : List Keyword).length + (if ([] : List Keyword).isEmpty then 0 else 1) < 30)) = true := by
  rw [star1 h', star1 h]; rfl
theorem okS_app {i : Nat} {ie : IE} {n : Str} {st : Stmt} {x : Expr} (h : mcall "append" st = some (n, [x])) (hv : visB S i n = true) (hm : S.M.contains i = true) (hs : noStar x = true) (hx : OkE k defs K S ie x) (hl : lv S.M ie = false) : OkS k defs K S (.app i ie) st := by
  obtain ⟨p0, p, q, p2, rfl, hline⟩ := mcall_ok h
  obtain ⟨t, t1, t2⟩ := hx
  refine ⟨tDrop (tBM K "list" rAppend (tVar i) (tCons t tNil)), fun X g => ?_, fun H0 out σ H env Ps fl r e Dn qq => ?_⟩
  · obtain ⟨a, b, c, d⟩ := g.gd.vis hv
    refine ps_expr ?_
    exact g.gd.hK ▸ pe_bm PySem.F.plainAttrs_list PySem.F.slot_list_append PySem.F.type_list_append mt_append (pe_var a b c d) (pa_cons (t1 X g.gd) pa_nil (star1 hs)) rfl (few1 hs) hline (star1 hs) rfl
  · simp only [evalS] at e
    obtain ⟨d, e1, e⟩ := bind_split e
    cases he : env[i]? with
    | none => rw [he] at e; cases e
    | some o =>
      rw [he] at e
      cases o with
      | none => cases e
      | some y =>
        cases y with
        | list ds =>
          have e : (if decide (ds.length < sizeLine) = true then Res.ok (Fl.next (env.set i (some (.list (ds ++ [d]))))) else .bad) = .ok fl := e
          split at e
          · rename_i hz
            cases e
            have hz := of_decide_eq_true hz
            obtain ⟨p, s1, s2, pv⟩ := r.priv hm he
            obtain ⟨p', xs, ee, hp, hh, rr, zz⟩ := pv
            cases ee
            refine ⟨_, s1, .inl ⟨rfl, xs, SqL.of hh⟩, ?_⟩
            have := t2 σ H env (Ps ++ out) d r.er e1
            rw [hl] at this
            refine this H (Same.refl _) _ fun v H1 sm rv => ?_
            have r1 := r.same sm
            have hh1 : H1 p = some (.lst xs) := sm _ _ hh
            refine ⟨p, xs, v, rfl, rfl, hh1, by rw [rr.length]; exact hz, qq _ _ Ps ((hide_mono sm _).trans (hide_write s2)) (r1.write hm he s1 s2 ⟨p, _, rfl, hp, upd_same, ?_, ?_⟩)⟩
            · rw [hide_upd_in hp]
              exact (rr.mono (hide_mono sm _)).append (.cons rv.clean .nil)
            · rw [List.length_append]; simp; omega
          · cases e
        | _ => cases e
theorem okS_ext {i : Nat} {ie : IE} {n : Str} {st : Stmt} {x : Expr} (h : mcall "extend" st = some (n, [x])) (hv : visB S i n = true) (hm : S.M.contains i = true) (hs : noStar x = true) (hx : OkE k defs K S ie x) (hl : lv S.M ie = false) : OkS k defs K S (.ext i ie) st := by
  obtain ⟨p0, p, q, p2, rfl, hline⟩ := mcall_ok h
  obtain ⟨t, t1, t2⟩ := hx
  refine ⟨tDrop (tBM K "list" rExtend (tVar i) (tCons t tNil)), fun X g => ?_, fun H0 out σ H env Ps fl r e Dn qq => ?_⟩
  · obtain ⟨a, b, c, d⟩ := g.gd.vis hv
    refine ps_expr ?_
    exact g.gd.hK ▸ pe_bm PySem.F.plainAttrs_list PySem.F.slot_list_extend PySem.F.type_list_extend mt_extend (pe_var a b c d) (pa_cons (t1 X g.gd) pa_nil (star1 hs)) rfl (few1 hs) hline (star1 hs) rfl
  · simp only [evalS] at e
    obtain ⟨d, e1, e⟩ := bind_split e
    cases he : env[i]? with
    | none => rw [he] at e; cases e
    | some o =>
      rw [he] at e
      cases o with
      | none => cases e
      | some y =>
        cases y with
        | list ds =>
          cases d with
          | list es =>
            have e : (if decide (ds.length + es.length ≤ sizeLine) = true then Res.ok (Fl.next (env.set i (some (.list (ds ++ es))))) else .bad) = .ok fl := e
            split at e
            · rename_i hz
              cases e
              have hz := of_decide_eq_true hz
              obtain ⟨p, s1, s2, pv⟩ := r.priv hm he
              obtain ⟨p', xs, ee, hp, hh, rr, zz⟩ := pv
              cases ee
              refine ⟨_, s1, .inl ⟨rfl, xs, SqL.of hh⟩, ?_⟩
              have := t2 σ H env (Ps ++ out) _ r.er e1
              rw [hl] at this
              refine this H (Same.refl _) _ fun v H1 sm rv => ?_
              have r1 := r.same sm
              have hh1 : H1 p = some (.lst xs) := sm _ _ hh
              obtain ⟨b, zs, rfl, hb, rz, _⟩ := rv.list
              refine ⟨p, b, xs, zs, rfl, rfl, hh1, hb, by rw [rr.length, rz.length]; exact hz, qq _ _ Ps ((hide_mono sm _).trans (hide_write s2)) (r1.write hm he s1 s2 ⟨p, _, rfl, hp, upd_same, ?_, ?_⟩)⟩
              · rw [hide_upd_in hp]
                exact (rr.mono (hide_mono sm _)).append rz
              · rw [List.length_append]; exact hz
            · cases e
          | _ => cases e
        | _ => cases e
theorem okS_ins {i : Nat} {ia ie : IE} {n : Str} {st : Stmt} {y x : Expr} (h : mcall "insert" st = some (n, [y, x])) (hv : visB S i n = true) (hm : S.M.contains i = true) (hs' : noStar y = true) (hs : noStar x = true) (hy : OkE k defs K S ia y) (hx : OkE k defs K S ie x) (hl : lv S.M ie = false) : OkS k defs K S (.ins i ia ie) st := by
  obtain ⟨p0, p, q, p2, rfl, hline⟩ := mcall_ok h
  obtain ⟨t, t1, t2⟩ := hx
  obtain ⟨u, u1, u2⟩ := hy
  refine ⟨tDrop (tBM K "list" (fun x vs H Q => ∃ (l : Addr) (xs : List V) (i : Int) (y : V), x = .ref l ∧ vs = [.int i, y] ∧ H l = some (.lst xs) ∧ xs.length < sizeLine ∧ 0 ≤ i ∧ i < 2 ^ 63 ∧ Q .non (upd H l (.lst (xs.take i.toNat ++ [y] ++ xs.drop i.toNat)))) (tVar i) (tCons u (tCons t tNil))), fun X g => ?_, fun H0 out σ H env Ps fl r e Dn qq => ?_⟩
  · obtain ⟨a, b, c, d⟩ := g.gd.vis hv
    refine ps_expr ?_
    exact g.gd.hK ▸ pe_bm PySem.F.plainAttrs_list PySem.F.slot_list_insert PySem.F.type_list_insert mt_insert (pe_var a b c d) (pa_cons (u1 X g.gd) (pa_cons (t1 X g.gd) pa_nil (star1 hs)) (star1 hs')) rfl (few2 hs' hs) hline (star1 hs') (by rw [star1 hs]; rfl)
  · simp only [evalS] at e
    obtain ⟨m, e0, e⟩ := bind_split e
    obtain ⟨d, e1, e⟩ := bind_split e
    cases he : env[i]? with
    | none => rw [he] at e; cases e
    | some o =>
      rw [he] at e
      cases o with
      | none => cases e
      | some y =>
        cases y with
        | list ds =>
          cases m with
          | int m =>
            have e : (if decide (ds.length < sizeLine ∧ 0 ≤ m ∧ m < 2 ^ 62) = true then Res.ok (Fl.next (env.set i (some (.list (ds.take m.toNat ++ [d] ++ ds.drop m.toNat))))) else .bad) = .ok fl := e
            split at e
            · rename_i hz
              cases e
              have hz := of_decide_eq_true hz
              obtain ⟨p, s1, s2, pv⟩ := r.priv hm he
              obtain ⟨p', xs, ee, hp, hh, rr, zz⟩ := pv
              cases ee
              refine ⟨_, s1, .inl ⟨rfl, xs, SqL.of hh⟩, ?_⟩
              refine u2 σ H env (Ps ++ out) _ r.er e0 H (Same.refl _) _ fun vm H1 sm1 rm => ?_
              cases rm.int
              have := t2 σ H env (Ps ++ out) _ r.er e1
              rw [hl] at this
              refine this H1 sm1 _ fun v H2 sm2 rv => ?_
              have sm := sm1.trans sm2
              have r1 := r.same sm
              have hh1 : H2 p = some (.lst xs) := sm _ _ hh
              refine ⟨p, xs, m, v, rfl, rfl, hh1, by rw [rr.length]; exact hz.1, hz.2.1, by omega, qq _ _ Ps ((hide_mono sm _).trans (hide_write s2)) (r1.write hm he s1 s2 ⟨p, _, rfl, hp, upd_same, ?_, ?_⟩)⟩
              · rw [hide_upd_in hp]
                have rr2 := rr.mono (hide_mono sm (Ps ++ out))
                exact ((rr2.take _).append (.cons rv.clean .nil)).append (rr2.drop _)
              · simp only [List.length_append, List.length_take, List.length_drop, List.length_cons, List.length_nil]; omega
            · cases e
          | _ => cases e
        | _ => cases e
theorem okS_put {i : Nat} {ia ie : IE} {n : Str} {y x : Expr} {p0 p1 p2 : Pos} (hv : visB S i n = true) (hm : S.M.contains i = true) (hy : OkE k defs K S ia y) (hx : OkE k defs K S ie x) (hl : lv S.M ie = false) (hc : noComp x = true) : OkS k defs K S (.put i ia ie) (.Assign [.Subscript (.Name n p0) y p1] x p2) := by
  obtain ⟨t, t1, t2⟩ := hx
  obtain ⟨u, u1, u2⟩ := hy
  refine ⟨sDPut (tVar i) u t, fun X g => ?_, fun H0 out σ H env Ps fl r e Dn qq => ?_⟩
  · obtain ⟨a, b, c, d⟩ := g.gd.vis hv
    exact ps_dput (by have := g.gd.hu; omega) (pe_var a b c d) (u1 X g.gd) (t1 X g.gd) (swap_noComp hc)
  · simp only [evalS] at e
    obtain ⟨d, e1, e⟩ := bind_split e
    obtain ⟨m, e0, e⟩ := bind_split e
    cases he : env[i]? with
    | none => rw [he] at e; cases e
    | some o =>
      rw [he] at e
      cases o with
      | none => cases e
      | some y =>
        cases y with
        | dict kvs =>
          cases m with
          | str kk =>
            have e : (if (isKeyed kvs && decide (kvs.length < sizeLine)) = true then Res.ok (Fl.next (env.set i (some (.dict (putD kk d kvs))))) else .bad) = .ok fl := e
            split at e
            · rename_i hz
              cases e
              simp only [Bool.and_eq_true, decide_eq_true_eq] at hz
              obtain ⟨p, s1, s2, pv⟩ := r.priv hm he
              obtain ⟨p', ks, ee, hp, hh, rr, zz⟩ := pv
              cases ee
              have := t2 σ H env (Ps ++ out) _ r.er e1
              rw [hl] at this
              refine this H (Same.refl _) _ fun v H1 sm1 rv => ⟨_, s1, ?_⟩
              refine u2 σ H env (Ps ++ out) _ r.er e0 H1 sm1 _ fun vm H2 sm2 rm => ?_
              obtain ⟨rfl, z1, z2⟩ := rm.str
              have sm := sm1.trans sm2
              have r1 := r.same sm
              have hh1 : H2 p = some (.dK ks) := sm _ _ hh
              refine ⟨p, _, rfl, DPut.k (k := .inr kk) hh1 (by rw [rr.length]; exact hz.2), qq _ _ Ps ((hide_mono sm _).trans (hide_write s2)) (r1.write hm he s1 s2 ⟨p, _, rfl, hp, upd_same, ?_, ?_⟩)⟩
              · rw [hide_upd_in hp]
                exact (rr.mono (hide_mono sm _)).put z1 z2 (rv.clean.mono (hide_mono sm2 _))
              · have : (putD kk d kvs).length ≤ kvs.length + 1 := by
                  unfold putD
                  split
                  · simp
                  · simp
                omega
            · cases e
          | _ => cases e
        | _ => cases e
end
end Tq

/-! Tq, part M: blocks, defs, the law. -/
namespace Tq
open PySem L2 Res
section
variable {k : Nat} {defs : Nat → Option FDef} {K : PySem.W.Frag} {S : Sx}
theorem lc_comp {i : Nat} {t : Tg} {it : IT} {elt : IE} {x tg ie : Expr} {scope : Scope} {y : Str} {py p sp : Pos} (hi : OkI k defs K S it tg ie) (hx : OkE k defs K (blkS S scope) elt x) (hset : noSet ie = true) (hb : blkC S.N S.sc scope (ownOf S t) = true) (ht : chkT (blkS S scope) t tg = true) (hl : lv S.M elt = false)
    (hy : S.N[i]? = some y) (yl : S.sc.names.lookup y = some .local) (ln : (py.line == p.line) = true) (na : (scope.names.any fun (n, k) => n == y && (k == .local || k == .cell)) = false) :
    ∃ te, (∀ X, GdS S k defs K X → PS X (.Assign [.Name y py] (.ListComp x [⟨tg, ie, [], 0⟩] scope p) sp) (tAsg te (gName i))) ∧ ∀ σ H env Ps d, EnvR K S.M H Ps σ env → evalE (callF defs k) (.comp t it elt) env = .ok d → EvF K te σ H Ps d := by
  obtain ⟨wi, i1, i2⟩ := id hi
  obtain ⟨te, x1, x2⟩ := id hx
  refine ⟨tLc wi (tgR K t) tYes te ((ownOf S t).map (·.2)), fun X g => ?_, fun σ H env Ps d r e => ?_⟩
  · have yl' : X.env.scope.names.lookup y = some .local := by rw [g.gd.sc]; exact yl
    refine ps_setLc g.gd.calm (by rw [g.gd.N]; exact g.gd.nd) (by rw [g.gd.N]; exact hy) yl' (sw_true (by rw [g.gd.sc]; exact g.kind) yl' ln na) (i1 X g.gd) (by rw [g.gd.N, g.gd.sc]; exact blkOk_by hb) (fun s H C cl fp => ?_) (fun s H C cl fp => pts_nil) (fun s H C cl fp => x1 _ (g.gd.blk s H scope C cl fp)) (fun v => fold_plain hset v)
    exact tg_pg (g.gd.blk s H scope C cl fp) ht
  · simp only [evalE] at e
    obtain ⟨ds, e1, e⟩ := bind_split e
    obtain ⟨rr, e2, e⟩ := bind_split e
    cases e
    refine evCompF own_snd r (i2 σ H env Ps ds r e1) (tg_ok (S := blkS S scope) ht) (tame_split e2) fun d o ho => ?_
    obtain ⟨env', h1, h2⟩ := bind_split ho
    obtain ⟨y, h3, h4⟩ := bind_split h2
    cases h4
    refine ⟨env', h1, fun σ' H' Ps' r' => ⟨true, fun H0 s0 Q q => q H0 (Same.refl _), fun _ => ⟨y, rfl, ?_⟩, fun z => nomatch z⟩⟩
    have := x2 σ' H' env' Ps' y r' h3
    have hl' : lv (blkS S scope).M elt = false := hl
    rw [hl'] at this
    exact this
theorem lc_compIf {i : Nat} {t : Tg} {it : IT} {c elt : IE} {x yc tg ie : Expr} {scope : Scope} {y : Str} {py p sp : Pos} (hi : OkI k defs K S it tg ie) (hc : OkB k defs K (blkS S scope) c yc) (hx : OkE k defs K (blkS S scope) elt x) (hset : noSet ie = true) (hb : blkC S.N S.sc scope (ownOf S t) = true) (ht : chkT (blkS S scope) t tg = true) (hl : lv S.M elt = false)
    (hy : S.N[i]? = some y) (yl : S.sc.names.lookup y = some .local) (ln : (py.line == p.line) = true) (na : (scope.names.any fun (n, k) => n == y && (k == .local || k == .cell)) = false) :
    ∃ te, (∀ X, GdS S k defs K X → PS X (.Assign [.Name y py] (.ListComp x [⟨tg, ie, [yc], 0⟩] scope p) sp) (tAsg te (gName i))) ∧ ∀ σ H env Ps d, EnvR K S.M H Ps σ env → evalE (callF defs k) (.compIf t it c elt) env = .ok d → EvF K te σ H Ps d := by
  obtain ⟨wi, i1, i2⟩ := id hi
  obtain ⟨tt, c1, c2⟩ := id hc
  obtain ⟨te, x1, x2⟩ := id hx
  refine ⟨tLc wi (tgR K t) tt te ((ownOf S t).map (·.2)), fun X g => ?_, ?_⟩
  · have yl' : X.env.scope.names.lookup y = some .local := by rw [g.gd.sc]; exact yl
    refine ps_setLc g.gd.calm (by rw [g.gd.N]; exact g.gd.nd) (by rw [g.gd.N]; exact hy) yl' (sw_true (by rw [g.gd.sc]; exact g.kind) yl' ln na) (i1 X g.gd) (by rw [g.gd.N, g.gd.sc]; exact blkOk_by hb) (fun s H C cl fp => ?_) (fun s H C cl fp => pts_one (c1 _ (g.gd.blk s H scope C cl fp))) (fun s H C cl fp => x1 _ (g.gd.blk s H scope C cl fp)) (fun v => fold_plain hset v)
    exact tg_pg (g.gd.blk s H scope C cl fp) ht
  · intro σ H env Ps d r e
    simp only [evalE] at e
    obtain ⟨ds, e1, e⟩ := bind_split e
    obtain ⟨rr, e2, e⟩ := bind_split e
    cases e
    refine evCompF own_snd r (i2 σ H env Ps ds r e1) (tg_ok (S := blkS S scope) ht) (tame_split e2) fun d o ho => ?_
    obtain ⟨env', h1, h2⟩ := bind_split ho
    obtain ⟨u, h3, h4⟩ := bind_split h2
    obtain ⟨b, h5, h6⟩ := bind_split h4
    refine ⟨env', h1, fun σ' H' Ps' r' => ⟨b, c2 σ' H' env' Ps' b r' (by rw [h3]; exact h5), fun hb => ?_, fun hb => ?_⟩⟩
    · subst hb
      obtain ⟨y, h7, h8⟩ := bind_split (show (evalE (callF defs k) elt env').bind (fun x => Res.ok (some x)) = .ok o from h6)
      cases h8
      refine ⟨y, rfl, ?_⟩
      have := x2 σ' H' env' Ps' y r' h7
      have hl' : lv (blkS S scope).M elt = false := hl
      rw [hl'] at this
      exact this
    · subst hb
      cases h6
      rfl
theorem lc_ev {i : Nat} {ie : IE} {st : Stmt} (h : ∃ te, (∀ X, GdS S k defs K X → PS X st (tAsg te (gName i))) ∧ ∀ σ H env Ps d, EnvR K S.M H Ps σ env → evalE (callF defs k) ie env = .ok d → EvF K te σ H Ps d) : ∃ te, (∀ X, GdS S k defs K X → PS X st (tAsg te (gName i))) ∧ ∀ σ H env Ps d, EnvR K S.M H Ps σ env → evalE (callF defs k) ie env = .ok d → EvD K te σ H Ps false d := by
  obtain ⟨te, h1, h2⟩ := h
  exact ⟨te, h1, fun σ H env Ps d r e => (h2 σ H env Ps d r e).ev r.dom⟩
theorem lc_fr {i : Nat} {ie : IE} {st : Stmt} (h : ∃ te, (∀ X, GdS S k defs K X → PS X st (tAsg te (gName i))) ∧ ∀ σ H env Ps d, EnvR K S.M H Ps σ env → evalE (callF defs k) ie env = .ok d → EvF K te σ H Ps d) : ∃ te, (∀ X, GdS S k defs K X → PS X st (tAsg te (gName i))) ∧ ∀ σ H env Ps d, EnvR K S.M H Ps σ env → evalE (callF defs k) ie env = .ok d → freshD d = true → EvF K te σ H Ps d := by
  obtain ⟨te, h1, h2⟩ := h
  exact ⟨te, h1, fun σ H env Ps d r e _ => h2 σ H env Ps d r e⟩
theorem nm_ok {i : Nat} {tg : Expr} (h : chkT S (.nm i) tg = true) : ∃ x p, tg = .Name x p ∧ S.N[i]? = some x ∧ S.M.contains i = false := by
  cases tg with
  | Name x p =>
    simp only [chkT, Bool.and_eq_true, Bool.not_eq_true'] at h
    have h1 := h.1
    unfold locB at h1
    simp only [Bool.and_eq_true, decide_eq_true_eq] at h1
    exact ⟨x, p, rfl, h1.1, h.2⟩
  | _ => simp [chkT] at h
/-- a comprehension to a name -/
theorem sound_lc {i : Nat} {ie : IE} {y : Str} {py sp : Pos} {e : Expr} (hic : isComp ie = true) (h : chkE S ie e = true) (hy : S.N[i]? = some y) (hsw : swB S y py e = true) : ∃ te, (∀ X, GdS S k defs K X → PS X (.Assign [.Name y py] e sp) (tAsg te (gName i))) ∧ ∀ σ H env Ps d, EnvR K S.M H Ps σ env → evalE (callF defs k) ie env = .ok d → EvF K te σ H Ps d := by
  obtain ⟨elt, gs, scope, p, rfl, s1, s2, s3⟩ := swB_ok hsw
  cases ie with
  | comp t it el =>
    unfold chkE at h
    split at h <;> first | (cases h; done) | skip
    rename_i heq
    cases heq
    simp only [Bool.and_eq_true, Bool.not_eq_true'] at h
    obtain ⟨⟨⟨⟨⟨⟨⟨h1, h2⟩, h3⟩, h4⟩, h5⟩, h6⟩, _⟩, _⟩ := h
    exact lc_comp (soundIT it S _ _ h1) (soundE el _ _ h5) h2 h3 h4 h6 hy s1 s2 s3
  | compIf t it c el =>
    unfold chkE at h
    split at h <;> first | (cases h; done) | skip
    rename_i heq
    cases heq
    simp only [Bool.and_eq_true, Bool.not_eq_true'] at h
    obtain ⟨⟨⟨⟨⟨⟨⟨⟨h1, h2⟩, h3⟩, h4⟩, hc⟩, h5⟩, h6⟩, _⟩, _⟩ := h
    exact lc_compIf (soundIT it S _ _ h1) (soundB c _ _ hc) (soundE el _ _ h5) h2 h3 h4 h6 hy s1 s2 s3
  | _ => cases hic
/-- new things -/
theorem soundF {ie : IE} {e : Expr} (hf : frE ie = true) (h : chkE S ie e = true) : OkF k defs K S ie e := by
  cases ie with
  | lst es =>
    unfold chkE at h
    split at h <;> first | (cases h; done) | skip
    simp only [Bool.and_eq_true, decide_eq_true_eq] at h
    exact okF_lst (soundEs es S _ h.1) h.1 h.2
  | dsp ks es =>
    unfold chkE at h
    split at h <;> first | (cases h; done) | skip
    simp only [Bool.and_eq_true, decide_eq_true_eq] at h
    obtain ⟨p1, p2, p3, p4⟩ := soundP (k := k) (defs := defs) (K := K) es S ks _ _ h.1
    obtain ⟨t, t1, t2⟩ := okF_dsp p1 p2 p3 h.2 p4
    exact ⟨t, t1, fun σ H env Ps d r e _ => t2 σ H env Ps d r e⟩
  | o1 op a =>
    cases op <;> first | (cases hf; done) | skip
    unfold chkE at h
    split at h <;> first | (cases h; done) | skip
    rename_i x q
    exact okF_list (soundE a S x h) q
  | o2 op a b =>
    cases op <;> first | (cases hf; done) | skip
    · unfold chkE at h
      split at h <;> first | (cases h; done) | skip
      rename_i x y q
      simp only [Bool.and_eq_true] at h
      exact okF_o2 (soundE a S x h.1) (soundE b S y h.2) q rfl (fun X g => g ▸ op_addBI.or (op_add.or (op_add_str.or (op_cat.or op_catA)))) fr_add
    · unfold chkE at h
      split at h <;> first | (cases h; done) | skip
      rename_i x y q
      simp only [Bool.and_eq_true] at h
      exact okF_o2 (soundE a S x h.1) (soundE b S y h.2) q rfl (fun X g => op_mulBI.or (op_mul.or (op_rep.or op_repS))) fr_mul
  | o3 op a b c =>
    cases op <;> first | (cases hf; done) | skip
    unfold chkE at h
    split at h <;> first | (cases h; done) | skip
    rename_i x y z q
    simp only [Bool.and_eq_true] at h
    exact okF_sl (soundE a S x h.1.1) (okO_of h.1.2 fun y' hy => soundE b S y' hy) (okO_of h.2 fun z' hz => soundE c S z' hz) q
  | _ => cases hf
theorem tg_star {t : Tg} {tg : Expr} (h : chkT S t tg = true) : noStar tg = true := by
  cases tg <;> first | rfl | (cases t <;> simp [chkT] at h)
mutual
theorem soundS : ∀ (is : IS) (S : Sx) (hk : S.sc.kind = .function) (st : Stmt), chkS S is st = true → OkS k defs K S is st
  | .pass, S, hk, st, h => by
    unfold chkS at h
    split at h <;> first | (cases h; done) | skip
    exact okS_pass
  | .asg t e, S, hk, st, h => by
    unfold chkS at h
    split at h <;> first | (cases h; done) | skip
    rename_i tg x p
    simp only [Bool.and_eq_true, Bool.not_eq_true', Bool.or_eq_true] at h
    obtain ⟨⟨⟨h1, h2⟩, h3⟩, h4⟩ := h
    rcases h4 with ⟨h4, h5⟩ | ⟨h4, h5⟩
    · refine okS_asg (soundE e S x h2) h1 h3 h4 (fun env => ?_) (tg_star h1)
      rcases h5 with h5 | h5
      · cases t with
        | nm i =>
          obtain ⟨y, py, rfl, _⟩ := nm_ok h1
          exact stores_name
        | tu _ => cases h5
      · exact stores_noTup h5
    · cases t with
      | nm i =>
        obtain ⟨y, py, rfl, hy, hm⟩ := nm_ok h1
        exact okS_asgLc (lc_ev (sound_lc h4.2 h2 hy h5)) hm
      | tu _ => cases h4.1
  | .par i j a b, S, hk, st, h => by
    unfold chkS at h
    split at h <;> first | (cases h; done) | skip
    simp only [Bool.and_eq_true, Bool.not_eq_true', decide_eq_true_eq] at h
    obtain ⟨⟨⟨⟨⟨⟨⟨⟨⟨⟨⟨⟨⟨⟨⟨⟨h1, h2⟩, h3⟩, h4⟩, h5⟩, h6⟩, h7⟩, h8⟩, h9⟩, h10⟩, h11⟩, h12⟩, h13⟩, h14⟩, h15⟩, h16⟩, h17⟩ := h
    exact okS_par (soundE a S _ h12) (soundE b S _ h13) h14 h15 h10 h11 h1 h2 h3 h4 h5 h6 h7 h8 h9 h16 h17 hk
  | .bad, S, hk, st, h => okS_bad
  | .mset i e, S, hk, st, h => by
    unfold chkS at h
    split at h <;> first | (cases h; done) | skip
    simp only [Bool.and_eq_true, Bool.or_eq_true] at h
    obtain ⟨⟨⟨h1, h2⟩, h3⟩, h4⟩ := h
    rcases h4 with ⟨h4, h5⟩ | ⟨h4, h5⟩
    · exact okF_mset h2 h1 (soundF h4 h3) h5
    · have hy := h1
      unfold locB at hy
      simp only [Bool.and_eq_true, decide_eq_true_eq] at hy
      exact okS_mset h2 (lc_fr (sound_lc h4 h3 hy.1 h5))
  | .app i e, S, hk, st, h => by
    unfold chkS at h
    split at h <;> first | (cases h; done) | skip
    rename_i q
    simp only [Bool.and_eq_true, Bool.not_eq_true'] at h
    exact okS_app q h.1.1.1.1 h.1.1.1.2 h.1.1.2 (soundE e S _ h.1.2) h.2
  | .ext i e, S, hk, st, h => by
    unfold chkS at h
    split at h <;> first | (cases h; done) | skip
    rename_i q
    simp only [Bool.and_eq_true, Bool.not_eq_true'] at h
    exact okS_ext q h.1.1.1.1 h.1.1.1.2 h.1.1.2 (soundE e S _ h.1.2) h.2
  | .ins i a e, S, hk, st, h => by
    unfold chkS at h
    split at h <;> first | (cases h; done) | skip
    rename_i q
    simp only [Bool.and_eq_true, Bool.not_eq_true'] at h
    exact okS_ins q h.1.1.1.1.1.1 h.1.1.1.1.1.2 h.1.1.1.1.2 h.1.1.1.2 (soundE a S _ h.1.1.2) (soundE e S _ h.1.2) h.2
  | .put i a e, S, hk, st, h => by
    unfold chkS at h
    split at h <;> first | (cases h; done) | skip
    simp only [Bool.and_eq_true, Bool.not_eq_true'] at h
    exact okS_put h.1.1.1.1.1 h.1.1.1.1.2 (soundE a S _ h.1.1.1.2) (soundE e S _ h.1.1.2) h.1.2 h.2
  | .ret e, S, hk, st, h => by
    unfold chkS at h
    split at h <;> first | (cases h; done) | skip
    exact okS_ret (soundE e (dirty S) _ h)
  | .if_ c a b, S, hk, st, h => by
    unfold chkS at h
    split at h <;> first | (cases h; done) | skip
    simp only [Bool.and_eq_true] at h
    exact okS_if (soundB c (dirty S) _ h.1.1) (soundSs a S hk _ h.1.2) (soundSs b S hk _ h.2)
  | .for_ t it body, S, hk, st, h => by
    unfold chkS at h
    split at h <;> first | (cases h; done) | skip
    simp only [Bool.and_eq_true] at h
    exact okS_for (soundIT it S _ _ h.1.1.2) (soundSs body S hk _ h.2) h.1.1.1 h.1.2
theorem soundSs : ∀ (is : ISs) (S : Sx) (hk : S.sc.kind = .function) (st : List Stmt), chkSs S is st = true → OkSs k defs K S is st
  | .nil, S, hk, [], _ => okSs_nil
  | .nil, S, hk, _ :: _, h => by simp [chkSs] at h
  | .cons _ _, S, hk, [], h => by simp [chkSs] at h
  | .cons a as, S, hk, s :: ss, h => by
    simp only [chkSs, Bool.and_eq_true] at h
    exact okSs_cons (soundS a S hk s h.1) (soundSs as S hk ss h.2)
  | .pub ms as, S, hk, ss, h => by
    simp only [chkSs, Bool.and_eq_true, List.all_eq_true] at h
    exact okSs_pub h.1 (soundSs as (pubS S ms) hk ss h.2)
end
end

/-! ### how arguments come to plain parameters -/
theorem fm_congr {α β : Type} {f g : α → Option β} : ∀ {l : List α}, (∀ x ∈ l, f x = g x) → l.filterMap f = l.filterMap g
  | [], _ => rfl
  | a :: l, h => by rw [List.filterMap_cons, List.filterMap_cons, h a (by simp), fm_congr fun x hx => h x (List.mem_cons_of_mem _ hx)]
theorem look_zip : ∀ (ps : List Str) (us : List Value), us.length = ps.length → ∀ n ∈ ps, ((ps.zip us).lookup n).isNone = false
  | [], _, _, n, h => by simp at h
  | p :: ps, [], h, n, _ => by simp at h
  | p :: ps, u :: us, h, n, hn => by
    rw [List.zip_cons_cons, List.lookup_cons]
    by_cases e : n == p
    · simp [e]
    · simp only [e]
      refine look_zip ps us (by simpa using h) n ?_
      rcases List.mem_cons.mp hn with z | z
      · subst z; simp at e
      · exact z
theorem zip_look : ∀ (ps : List Str) (us : List Value), ps.Nodup → us.length = ps.length → ps.filterMap (fun n => ((ps.zip us).lookup n).map (n, ·)) = ps.zip us
  | [], _, _, _ => by simp
  | p :: ps, [], _, h => by simp at h
  | p :: ps, u :: us, nd, h => by
    have nd' := List.nodup_cons.mp nd
    have ih := zip_look ps us nd'.2 (by simpa using h)
    rw [List.zip_cons_cons, List.filterMap_cons]
    simp only [List.lookup_cons, beq_self_eq_true, Option.map_some]
    congr 1
    refine Eq.trans (fm_congr fun n hn => ?_) ih
    have : (n == p) = false := by
      rw [beq_eq_false_iff_ne]
      intro z; subst z; exact nd'.1 hn
    simp only [this]
def plainArgs : Arguments → Option (List Str)
  | ⟨[], args, none, [], [], none, []⟩ => some (args.map (·.arg))
  | _ => none
theorem bind_plain {x qual : Str} {body : List Stmt} {scope : Scope} {kV doc pm : Value} {an : Option Addr} {cdv ct : Value} {args : Arguments} {ps : List Str} (us : List Value) (ha : plainArgs args = some ps) (nd : ps.Nodup) (hl : us.length = ps.length) :
    bindArgs (PySem.W.fnOf x qual args body scope .none kV doc pm an cdv ct) ⟨us, []⟩ = pure (ps.zip us) := by
  unfold plainArgs at ha
  split at ha <;> first | (cases ha; done) | skip
  rename_i args
  have hps := Option.some.inj ha
  have hm : ps.filter (fun n => ((ps.zip us).lookup n).isNone) = [] := by
    rw [List.filter_eq_nil_iff]
    intro n hn
    rw [look_zip _ us hl n hn]
    simp
  have hf : ps.filterMap (fun n => ((ps.zip us).lookup n).map (n, ·)) = ps.zip us := zip_look ps us nd hl
  have hd : seqItems? Value.none = pure Option.none := rfl
  have hg : ¬ us.length > ps.length := by omega
  have pb : ∀ {α β : Type} (a : α) (f : α → Sem β), (pure a >>= f : Sem β) = f a := fun _ _ => rfl
  unfold bindArgs
  dsimp only [PySem.W.fnOf]
  rw [hps]
  simp only [List.map_nil, List.nil_append, List.forIn_nil, hd, Option.getD_none, List.length_nil, List.drop_nil, Nat.sub_zero, Nat.zero_sub, List.take_length, List.drop_length, List.zip_nil_right, hm, List.isEmpty_nil, Bool.not_true, List.append_nil, hf]
  simp only [pb, hg, decide_false, Bool.false_and, Option.getD_none, List.length_nil, List.drop_nil, Nat.sub_zero, Nat.zero_sub, List.take_length, List.drop_length, List.zip_nil_right, hm, List.isEmpty_nil, Bool.not_true, List.append_nil, hf, List.forIn_nil, if_false, Bool.false_eq_true]

/-! ### one def of ours, and its image -/
structure PF where
  f : Nat
  i : Nat
  x : Str
  N : List Str
  ps : List Str
  M : List Nat
def Sx.of (fnm : Nat → Option (Str × Nat)) (gl : List (Str × D)) (p : PF) (sc : Scope) : Sx := { N := p.N, sc := sc, M := p.M, fnm := fnm, gl := gl, fnc := fun _ => true }
def isFun : ScopeKind → Bool
  | .function => true
  | _ => false
def scopeB (N ps : List Str) (sc : Scope) : Bool := isFun sc.kind && !sc.isCoroutine && !sc.isGenerator && decide N.Nodup && decide (N.take ps.length = ps) && ps.all (fun x => locK true (sc.names.lookup x)) && sc.names.all fun y => match y.2 with | .free => false | _ => true
theorem scope_ok {N ps : List Str} {sc : Scope} (h : scopeB N ps sc = true) : FnScope N ps sc := by
  unfold scopeB at h
  simp only [Bool.and_eq_true, decide_eq_true_eq, Bool.not_eq_true', List.all_eq_true] at h
  obtain ⟨⟨⟨⟨⟨⟨h1, h2⟩, h3⟩, h4⟩, h5⟩, h6⟩, h7⟩ := h
  refine ⟨?_, h2, h3, h4, h5, fun x hx => ?_, fun y hy e => ?_⟩
  · cases q : sc.kind with
    | function => rfl
    | _ => rw [q] at h1; cases h1
  · have := h6 x hx
    cases q : sc.names.lookup x with
    | none => rw [q] at this; cases this
    | some kd => cases kd <;> first | (rw [q] at this; cases this; done) | simp
  · have := h7 y hy
    rw [e] at this
    cases this
/-- the def's text and its image -/
def chkF (fnm : Nat → Option (Str × Nat)) (gl : List (Str × D)) (defs : Nat → Option FDef) (p : PF) (st : Stmt) : Bool :=
  (match defs p.f with
    | some fd => decide (fd.n = p.N.length) && decide (fd.arity = p.ps.length) && chkSs (Sx.of fnm gl p (defScope st)) fd.body (defBody st)
    | none => false) &&
  decide (fnm p.f = some (p.x, p.ps.length)) && scopeB p.N p.ps (defScope st) && p.M.all (fun i => decide (p.ps.length ≤ i)) && decide (plainArgs (defArgs st) = some p.ps) && decide p.ps.Nodup
/-- all that the program's top has left -/
structure Top (P : Program) (w : World) (K : PySem.W.Frag) (mg : Str → Option Value) (base : Heap) (fnm : Nat → Option (Str × Nat)) (gl : List (Str × D)) (defs : Nat → Option FDef) (L : List PF) (top : Nat → Stmt) : Prop where
  gls : ∀ p ∈ gl, ∃ u, mg p.1 = some u ∧ RelV (gK K p.1) u
  glr : ∀ p ∈ gl, ∀ H, Rp K H (gK K p.1) p.2
  free : ∀ x ∈ freeNames, mg x = none
  chk : ∀ p ∈ L, chkF fnm gl defs p (top p.i) = true
  all : ∀ f x ar, fnm f = some (x, ar) → ∃ p ∈ L, p.f = f
  there : ∀ p ∈ L, ∃ a fd, mg p.x = some (.ref a) ∧ FunD K p.x p.x (defArgs (top p.i)) (defBody (top p.i)) (defScope (top p.i)) [] [] a fd
section
variable {P : Program} {w : World} {K : PySem.W.Frag} {mg : Str → Option Value} {base : Heap} {fnm : Nat → Option (Str × Nat)} {gl : List (Str × D)} {defs : Nat → Option FDef} {L : List PF} {top : Nat → Stmt}
/-- the slots at the entry -/
theorem start_env {M : List Nat} {H : Hp} {Ps : List Addr} {N ps : List Str} {vs : List V} {ds : List D} (r : RpAll K (hide H Ps) vs ds) (hl : ds.length = ps.length) (hm : ∀ i ∈ M, ps.length ≤ i) (hN : ps.length ≤ N.length) (dom : ∀ q ∈ Ps, H q ≠ none) : EnvR K M H Ps (L2.start N vs) (ds.map some ++ List.replicate (N.length - ds.length) none) where
  get := fun i d e => by
    have hi : i < ds.length := by
      by_cases hi : i < ds.length
      · exact hi
      · rw [List.getElem?_append_right (by simp; omega), List.getElem?_replicate] at e
        split at e <;> cases e
    rw [List.getElem?_append_left (by simpa using hi), List.getElem?_map] at e
    cases q : ds[i]? with
    | none => rw [q] at e; cases e
    | some d' =>
      rw [q] at e
      cases e
      obtain ⟨v, h1, h2⟩ := r.getD q
      refine ⟨v, ?_, .of h2, fun z => ?_⟩
      · unfold L2.start
        rw [List.getElem?_append_left (by rw [List.length_map, r.length]; exact hi), List.getElem?_map, h1]
        rfl
      · have := hm i (List.contains_iff_mem.mp z)
        omega
  inj := fun i j p d e hi hj hij h1 h2 h3 h4 => by
    have := hm i (List.contains_iff_mem.mp hi)
    rw [List.getElem?_append_right (by simp; omega), List.getElem?_replicate] at h1
    split at h1 <;> cases h1
  dom := dom
  len := by
    unfold L2.start
    simp [r.length]
theorem fns_ok (T : Top P w K mg base fnm gl defs L top) : ∀ (k : Nat) (p : PF), p ∈ L → ∀ a fd, mg p.x = some (.ref a) → FunD K p.x p.x (defArgs (top p.i)) (defBody (top p.i)) (defScope (top p.i)) [] [] a fd → FnOk P w K mg base (L2.CX P w) k a fd p.ps (spF K p.ps.length (callF defs k p.f))
  | 0, p, hp, a, fd, hm, F => by
    have no : ∀ vs H Q E, ¬ spF K p.ps.length (callF defs 0 p.f) vs H Q E := fun vs H Q E h => by
      obtain ⟨_, ds, Ps, d, _, _, e, _⟩ := h
      cases e
    exact ⟨fun vs H Q E h => absurd h (no vs H Q E), fun A outer s H args us vs Q E _ _ _ _ h => absurd h (no vs H Q E)⟩
  | k + 1, p, hp, a, fd, hm, F => by
    have hc := T.chk p hp
    unfold chkF at hc
    simp only [Bool.and_eq_true, decide_eq_true_eq, List.all_eq_true] at hc
    obtain ⟨⟨⟨⟨⟨c1, c2⟩, c3⟩, c4⟩, c5⟩, c6⟩ := hc
    cases hd : defs p.f with
    | none => rw [hd] at c1; cases c1
    | some fdef =>
      rw [hd] at c1
      simp only [Bool.and_eq_true, decide_eq_true_eq] at c1
      obtain ⟨⟨n1, n2⟩, n3⟩ := c1
      have SC := scope_ok c3
      refine F.ok SC (fun vs H Q E h => h.1) fun cdv A outer s H vs Q E hr h => ?_
      obtain ⟨hlen, ds, Ps, d, rv, dom, e, q⟩ := h
      have kk : (Sx.of fnm gl p (defScope (top p.i))).sc.kind = .function := SC.kind
      obtain ⟨t, t1, t2⟩ := soundSs (k := k) (defs := defs) (K := K) fdef.body _ kk (defBody (top p.i)) n3
      have g : Gd (Sx.of fnm gl p (defScope (top p.i))) k defs K (cxOf (L2.CX P w) P w K mg base p.N p.x (defScope (top p.i)) a cdv A outer s H E) := {
        hK := rfl
        N := rfl
        nd := SC.nd
        sc := rfl
        calm := rfl
        room := hr
        fn := rfl
        free := T.free
        gls := T.gls
        glr := T.glr
        fns := fun f x ar hf => by
          obtain ⟨p', hp', rfl⟩ := T.all f x ar hf
          have hc' := T.chk p' hp'
          unfold chkF at hc'
          simp only [Bool.and_eq_true, decide_eq_true_eq, List.all_eq_true] at hc'
          obtain ⟨⟨⟨⟨⟨_, d2⟩, _⟩, _⟩, d5⟩, d6⟩ := hc'
          have hf' : fnm p'.f = some (x, ar) := hf
          rw [d2] at hf'
          cases hf'
          obtain ⟨a', fd', m', F'⟩ := T.there p' hp'
          exact ⟨a', fd', p'.ps, m', F'.kp, F'.bindsN fun _ _ _ _ _ _ us hl => bind_plain us d5 d6 hl, fns_ok T k p' hp' a' fd' m' F'⟩ }
      refine ⟨t, t1 _ ⟨g, passes_of rfl, kk⟩, ?_⟩
      have hds : ds.length = p.ps.length := by rw [← rv.length, hlen]
      have hpn : p.ps.length ≤ p.N.length := by
        have := SC.pre
        have h2 := congrArg List.length this
        rw [List.length_take] at h2
        omega
      have e' : runF (callF defs k) fdef ds = .ok d := by
        have : callF defs (k + 1) p.f ds = runF (callF defs k) fdef ds := by simp only [callF, hd]
        rw [← this]; exact e
      unfold runF at e'
      rw [if_pos (by rw [n2]; exact hds)] at e'
      obtain ⟨fl, e1, e2⟩ := bind_split e'
      have r0 : SR K p.M H Ps H [] (L2.start p.N vs) (ds.map some ++ List.replicate (fdef.n - ds.length) none) := {
        er := by rw [n1]; exact start_env rv hds (fun i hi => c4 i hi) hpn dom
        ent := Same.refl _
        fr := fun p hp => nomatch hp
        odom := dom
        own := fun i d' hi he => by
          have hi' := c4 i (List.contains_iff_mem.mp hi)
          rw [List.getElem?_append_right (by simp; omega), List.getElem?_replicate] at he
          split at he <;> cases he }
      refine t2 H Ps (L2.start p.N vs) H _ [] fl r0 e1 _ ?_
      cases fl with
      | next env' =>
        cases e2
        exact fun σ' H' Ps' _ r' => q _ H' r'.ent .non
      | ret x =>
        cases e2
        exact fun v H' s' rv' => q v H' s' rv'
end
end Tq

/-! Tq, part N: a law's end. -/
namespace Tq
open PySem L2 Res
/-- the level at which the law is called -/
abbrev deep : Nat := 200
theorem room_law : Room deep callerA := ⟨rfl, by decide, by decide⟩
def defD (top : Nat → Stmt) (p : PF) : He.DefD := ⟨(p.x, none), p.x, p.x, defArgs (top p.i), defBody (top p.i), defScope (top p.i), [], []⟩
def faOf (L : List PF) : List He.Fa := freeNames.map He.Fa.free ++ L.map fun p => He.Fa.glo p.x
/-! ### what the module's names stand for -/
mutual
def valB (K : PySem.W.Frag) : D → Value → Bool
  | .none, .none => true
  | .bool b, .bool c => b == c
  | .int i, .int j _ => decide (i = j)
  | .str x, .str y _ => decide (x = y) && smallStr x
  | .tuple ds, .ref a => match K.lookup a with
    | some o => (match o.cls with | .type c => decide (c = "tuple") | _ => false) && (match o.data with | .seq its _ => decide (its.size ≤ 1000) && valsB K ds its.toList | _ => false)
    | none => false
  | _, _ => false
def valsB (K : PySem.W.Frag) : List D → List Value → Bool
  | [], [] => true
  | d :: ds, u :: us => valB K d u && valsB K ds us
  | _, _ => false
end
mutual
theorem valB_ok {K : PySem.W.Frag} : ∀ (d : D) (u : Value), valB K d u = true → RelV (gV u) u ∧ ∀ H, Rp K H (gV u) d
  | .none, u, h => by
    cases u <;> first | (simp [valB] at h; done) | skip
    exact ⟨rfl, fun H => .non⟩
  | .bool b, u, h => by
    cases u <;> first | (simp [valB] at h; done) | skip
    have h := eq_of_beq (show (b == _) = true by simpa [valB] using h)
    subst h
    exact ⟨rfl, fun H => .bl b⟩
  | .int i, u, h => by
    cases u <;> first | (simp [valB] at h; done) | skip
    have h := of_decide_eq_true (show decide (i = _) = true by simpa [valB] using h)
    subst h
    exact ⟨⟨_, rfl⟩, fun H => .int i⟩
  | .str x, u, h => by
    cases u <;> first | (simp [valB] at h; done) | skip
    simp only [valB, smallStr, Bool.and_eq_true, decide_eq_true_eq] at h
    obtain ⟨rfl, h1, h2⟩ := h
    exact ⟨⟨_, rfl⟩, fun H => .str (Nat.le_of_lt (small1000 h1)) h2⟩
  | .tuple ds, u, h => by
    cases u <;> first | (simp [valB] at h; done) | skip
    rename_i a
    refine ⟨rfl, fun H => ?_⟩
    cases q : K.lookup a with
    | none => simp [valB, q] at h
    | some o =>
      simp only [valB, q, Bool.and_eq_true] at h
      obtain ⟨h1, h2⟩ := h
      split at h1 <;> first | (cases h1; done) | skip
      rename_i c hc
      have h1 := of_decide_eq_true h1
      subst h1
      split at h2 <;> first | (cases h2; done) | skip
      rename_i its n hd
      simp only [Bool.and_eq_true, decide_eq_true_eq] at h2
      obtain ⟨h3, h4⟩ := h2
      obtain ⟨v1, v2⟩ := valsB_ok ds its.toList h4
      have hz : its.size ≤ sizeLine := Nat.le_of_lt (small1000 h3)
      refine .tup (xs := its.toList.map gV) (.inr ⟨o, its, n, q, hc, hd, hz, v1⟩) (v2 H) ?_
      have := (v2 H).length
      rw [← this]
      simpa using hz
  | .list _, u, h => by cases u <;> simp [valB] at h
  | .dict _, u, h => by cases u <;> simp [valB] at h
theorem valsB_ok {K : PySem.W.Frag} : ∀ (ds : List D) (us : List Value), valsB K ds us = true → Vals (us.map gV) us ∧ ∀ H, RpAll K H (us.map gV) ds
  | [], [], _ => ⟨.nil, fun H => .nil⟩
  | [], _ :: _, h => by simp [valsB] at h
  | _ :: _, [], h => by simp [valsB] at h
  | d :: ds, u :: us, h => by
    simp only [valsB, Bool.and_eq_true] at h
    obtain ⟨a1, a2⟩ := valB_ok d u h.1
    obtain ⟨b1, b2⟩ := valsB_ok ds us h.2
    exact ⟨.cons a1 b1, fun H => .cons (a2 H) (b2 H)⟩
end
def conB (K : PySem.W.Frag) (p : Str × D) : Bool := match PySem.W.nsIn K mainGlobals p.1 with
  | some (some u) => valB K p.2 u
  | _ => false
theorem conB_ok {K : PySem.W.Frag} {h : Heap} {mg : Str → Option Value} (KX : K.In h) (G : h.Ns mainGlobals mg) {p : Str × D} (c : conB K p = true) : (∃ u, mg p.1 = some u ∧ RelV (gK K p.1) u) ∧ ∀ H, Rp K H (gK K p.1) p.2 := by
  unfold conB at c
  unfold gK
  cases q : PySem.W.nsIn K mainGlobals p.1 with
  | none => simp only [q] at c; cases c
  | some o =>
    cases o with
    | none => simp only [q] at c; cases c
    | some u =>
      simp only [q] at c
      obtain ⟨a1, a2⟩ := valB_ok p.2 u c
      exact ⟨⟨u, PySem.W.mg_of KX G q, a1⟩, a2⟩
/-! ### the hook, with the module's names -/
def obsT (n : Nat) (fa : List He.Fa) (fn : List He.DefD) (gl : List (Str × D)) (g : Addr → Option Obj) : He.AlD × Bool := (He.obsD fa fn (He.frG g (He.asD g n)), gl.all (conB (He.frG g (He.asD g n))))
def hookT (n : Nat) (fa : List He.Fa) (fn : List He.DefD) (gl : List (Str × D)) : PySem.W.Hook where
  α := He.AlD × Bool
  obs := fun s => obsT n fa fn gl s.heap.get?
  val := fun _ => (He.valD fn, true)
  says := fun _ h => ∃ K : PySem.W.Frag, K.In h ∧ He.SaysD fa fn K ∧ gl.all (conB K) = true
  of := fun _ _ e => ⟨_, He.frG_in, congrArg (fun z : He.AlD × Bool => z.1) e, congrArg (fun z : He.AlD × Bool => z.2) e⟩
  keeps := fun _ _ _ ⟨K, hK, c, c'⟩ k => ⟨K, PySem.W.Frag.In.keeps hK k, c, c'⟩
theorem obsT_eq {n : Nat} {fa : List He.Fa} {fn : List He.DefD} {gl : List (Str × D)} {g : Addr → Option Obj} {s : Shared} (h : ∀ a, g a = s.heap.get? a) : obsT n fa fn gl g = (hookT n fa fn gl).obs s := by
  have e : g = s.heap.get? := funext h
  rw [e]; rfl
section
variable {K : PySem.W.Frag} {h : Heap} {mg : Str → Option Value} {top : Nat → Stmt} {L : List PF} {fn : List He.DefD}
theorem mem_at {α : Type} {l : List α} {a : α} (h : a ∈ l) : ∃ i : Nat, l[i]? = some a := List.mem_iff_getElem?.mp h
theorem top_of {P : Program} {w : World} {base : Heap} {fnm : Nat → Option (Str × Nat)} {gl : List (Str × D)} {defs : Nat → Option FDef} (KX : K.In h) (G : h.Ns mainGlobals mg) (c : He.SaysD (faOf L) (L.map (defD top)) K) (cg : gl.all (conB K) = true)
    (chk : ∀ p ∈ L, chkF fnm gl defs p (top p.i) = true) (all : ∀ f x ar, fnm f = some (x, ar) → ∃ p ∈ L, p.f = f) : Top P w K mg base fnm gl defs L top where
  gls := fun p hp => (conB_ok KX G (List.all_eq_true.mp cg p hp)).1
  glr := fun p hp => (conB_ok KX G (List.all_eq_true.mp cg p hp)).2
  free := fun x hx => by
    obtain ⟨i, hi⟩ := mem_at (show He.Fa.free x ∈ faOf L from List.mem_append_left _ (List.mem_map.mpr ⟨x, hx, rfl⟩))
    exact He.free_ok KX G (c.fact i hi)
  chk := chk
  all := all
  there := fun p hp => by
    obtain ⟨i, hi⟩ := mem_at (show He.Fa.glo p.x ∈ faOf L from List.mem_append_right _ (List.mem_map.mpr ⟨p, hp, rfl⟩))
    obtain ⟨j, hj⟩ := mem_at (show defD top p ∈ L.map (defD top) from List.mem_map.mpr ⟨p, hp, rfl⟩)
    obtain ⟨fd, F⟩ := c.def_ j hj
    exact ⟨_, fd, He.glo_ok KX G (c.fact i hi), F⟩
end
theorem walk_tq {l : PySem.W.OpenLaw} {q : Program} {loose : List Str} {XP : (Str → Option Value) → Heap → Prop} {d : DefRec} {top : Nat → Stmt} {L : List PF} {fnm : Nat → Option (Str × Nat)} {gl : List (Str × D)} {defs : Nat → Option FDef}
    (hn : l.most = some 63) (hdf : d.params.defaults = []) (p : PF) (hp : p ∈ L) (hx : d.name = p.x) (hps : p.ps = [("script" : Str)])
    (chk : ∀ p ∈ L, chkF fnm gl defs p (top p.i) = true) (all : ∀ f x ar, fnm f = some (x, ar) → ∃ p ∈ L, p.f = f)
    (res : ∀ ns : List Int, ns.length ≤ 63 → callF defs deep p.f [scrD (ns.map PyData.int)] = .ok (.bool true)) :
    PySem.W.WalkO q loose XP (hookT 4 (faOf L) (L.map (defD top)) gl).says l.row.toRowW d [] (fun f vs => PySem.call f vs) := by
  refine Att.attach_call hn hdf fun w s₀ s₁ mg mb fa o pm cd doc a vs ns G Y ho hd hcd hmg hobj hints hlen hg => ?_
  obtain ⟨K, KX, c, cg⟩ := Y
  have T : ∀ base : Heap, Top l.prog w K mg base fnm gl defs L top := fun base => top_of KX G.T.g c cg chk all
  obtain ⟨a', fd, m', F⟩ := (T s₁.heap).there p hp
  rw [hx, m'] at hmg
  cases hmg
  have hc := chk p hp
  unfold chkF at hc
  simp only [Bool.and_eq_true, decide_eq_true_eq, List.all_eq_true] at hc
  obtain ⟨⟨⟨⟨⟨_, _⟩, _⟩, _⟩, d5⟩, d6⟩ := hc
  refine law_call (CX := L2.CX l.prog w) (x := "script") (fd := fd) (sp := spF K 1 (callF defs deep p.f)) KX G.T.g G.T.b G.T.builtins G.T.nolimit hg hobj hints (Nat.le_trans hlen (by decide)) room_law (fun base _ _ => ?_) (fun s u => ?_) (fun H hO hS => ?_) fun H e s' z => ?_
  · have := fns_ok (T base) deep p hp _ fd m' F
    rw [hps] at this
    exact this
  · have := F.bindsA (ps := p.ps) (fun _ _ _ _ _ _ us hl => bind_plain us d5 d6 hl) s [u] (by rw [hps]; rfl)
    rw [hps] at this
    exact this
  · refine ⟨rfl, [scrD (ns.map PyData.int)], [], .bool true, .cons (.scr (xs := ns.map V.int) (by rw [hide_nil]; exact hS) ?_ ?_) .nil, fun _ hq => by simp at hq, res ns hlen, fun v H' _ rv => ?_⟩
    · have : ∀ ms : List Int, RpAll K (hide H []) (ms.map V.int) (ms.map PyData.int) := fun ms => by
        induction ms with
        | nil => exact .nil
        | cons m ms ih => exact .cons (.int m) ih
      exact this ns
    · rw [List.length_map]
      exact Nat.le_trans hlen (by decide)
    · cases rv
      rfl
  · obtain ⟨_, _, _, _, _, _, _, _, _, _, _, _, zz⟩ := z
    exact zz
end Tq

/-! Tq, part P: small rules for reckoning with images. -/
namespace Tq
open PySem L2 Res
section
variable {ρ : Nat → List D → Res D}
@[simp] theorem put_nm (i : Nat) (d : D) (env : En) : (Tg.nm i).put d env = .ok (env.set i (some d)) := by simp only [Tg.put]
@[simp] theorem put_tu (ts : Tgs) (ds : List D) (env : En) : (Tg.tu ts).put (.tuple ds) env = ts.put ds env := by simp only [Tg.put]
@[simp] theorem puts_nil (env : En) : Tgs.nil.put [] env = .ok env := by simp only [Tgs.put]
@[simp] theorem puts_cons (t : Tg) (ts : Tgs) (d : D) (ds : List D) (env : En) : (Tgs.cons t ts).put (d :: ds) env = (t.put d env).bind fun e => ts.put ds e := by simp only [Tgs.put]
@[simp] theorem truth_bool (b : Bool) : truth (.bool b) = .ok b := rfl
@[simp] theorem truth_none : truth .none = .ok false := rfl
@[simp] theorem truth_int (i : Int) : truth (.int i) = .ok (i != 0) := rfl
@[simp] theorem truth_list (l : List D) : truth (.list l) = .ok (!l.isEmpty) := rfl
@[simp] theorem truth_tuple (l : List D) : truth (.tuple l) = .ok (!l.isEmpty) := rfl
@[simp] theorem truth_str (x : Str) : truth (.str x) = .ok (x.length != 0) := rfl
@[simp] theorem o2_add_i (i j : Int) : op2 .add (.int i) (.int j) = .ok (.int (i + j)) := rfl
@[simp] theorem o2_sub_i (i j : Int) : op2 .sub (.int i) (.int j) = .ok (.int (i - j)) := rfl
@[simp] theorem o2_lt_i (i j : Int) : op2 .lt (.int i) (.int j) = .ok (.bool (decide (i < j))) := rfl
@[simp] theorem o2_le_i (i j : Int) : op2 .le (.int i) (.int j) = .ok (.bool (decide (i ≤ j))) := rfl
@[simp] theorem o2_gt_i (i j : Int) : op2 .gt (.int i) (.int j) = .ok (.bool (decide (j < i))) := rfl
@[simp] theorem o2_ge_i (i j : Int) : op2 .ge (.int i) (.int j) = .ok (.bool (decide (j ≤ i))) := rfl
theorem o2_mul {i j : Int} (h : mulOk i j = true) : op2 .mul (.int i) (.int j) = .ok (.int (i * j)) := by
  show (if mulOk i j then Res.ok (PyData.int (i * j)) else .bad) = _
  rw [if_pos h]
theorem o2_mod {i j : Int} (h : 0 < j) : op2 .mod (.int i) (.int j) = .ok (.int (i % j)) := by
  show (if decide (0 < j) then Res.ok (PyData.int (i % j)) else .bad) = _
  rw [if_pos (decide_eq_true h)]
theorem mulOk_l {i j : Int} (h : -1000000 < i) (h' : i < 1000000) : mulOk i j = true := decide_eq_true (.inl ⟨by omega, by omega⟩)
theorem mulOk_r {i j : Int} (h : -1000000 < j) (h' : j < 1000000) : mulOk i j = true := decide_eq_true (.inr ⟨by omega, by omega⟩)
@[simp] theorem o2_is_n (d : D) : op2 .is d .none = .ok (.bool (isNone d)) := rfl
@[simp] theorem o2_is_b (d : D) (b : Bool) : op2 .is d (.bool b) = .ok (.bool (isBool b d)) := rfl
@[simp] theorem o2_isnot_n (d : D) : op2 .isnot d .none = .ok (.bool (!isNone d)) := rfl
@[simp] theorem o2_isnot_b (d : D) (b : Bool) : op2 .isnot d (.bool b) = .ok (.bool (!isBool b d)) := rfl
@[simp] theorem isBool_b (b c : Bool) : isBool b (.bool c) = (c == b) := rfl
@[simp] theorem isNone_n : isNone .none = true := rfl
@[simp] theorem isNone_b (b : Bool) : isNone (.bool b) = false := rfl
@[simp] theorem isNone_i (i : Int) : isNone (.int i) = false := rfl
@[simp] theorem isNone_s (x : Str) : isNone (.str x) = false := rfl
@[simp] theorem isNone_t (l : List D) : isNone (.tuple l) = false := rfl
@[simp] theorem isNone_l (l : List D) : isNone (.list l) = false := rfl
theorem min0 (n : Nat) : decide (min 0 n ≤ 60) = true := by simp
theorem eqOk_l {a b : D} (h : a.depth = 0) (ha : noDict a = true) (hb : noDict b = true) : eqOk a b = true := by
  unfold eqOk; rw [ha, hb, h]; simp
theorem eqOk_r {a b : D} (h : b.depth = 0) (ha : noDict a = true) (hb : noDict b = true) : eqOk a b = true := by
  unfold eqOk; rw [ha, hb, h]; simp
theorem o2_eq {a b : D} (h : eqOk a b = true) : op2 .eq a b = .ok (.bool (PyData.eqv a b)) := by
  show (if eqOk a b then Res.ok (PyData.bool (PyData.eqv a b)) else .bad) = _
  rw [if_pos h]
theorem o2_ne {a b : D} (h : eqOk a b = true) : op2 .ne a b = .ok (.bool (!PyData.eqv a b)) := by
  show (if eqOk a b then Res.ok (PyData.bool (!PyData.eqv a b)) else .bad) = _
  rw [if_pos h]
@[simp] theorem o2_eq_i (i j : Int) : op2 .eq (.int i) (.int j) = .ok (.bool (i == j)) := by
  rw [o2_eq (eqOk_l (by simp [PyData.depth]) (by simp [noDict]) (by simp [noDict]))]; simp [PyData.eqv]
@[simp] theorem o2_eq_s (x y : Str) : op2 .eq (.str x) (.str y) = .ok (.bool (x == y)) := by
  rw [o2_eq (eqOk_l (by simp [PyData.depth]) (by simp [noDict]) (by simp [noDict]))]; simp [PyData.eqv]
@[simp] theorem o2_eq_ns (y : Str) : op2 .eq .none (.str y) = .ok (.bool false) := by
  rw [o2_eq (eqOk_l (by simp [PyData.depth]) (by simp [noDict]) (by simp [noDict]))]; simp [PyData.eqv]
@[simp] theorem o2_eq_b (x y : Bool) : op2 .eq (.bool x) (.bool y) = .ok (.bool (x == y)) := by
  rw [o2_eq (eqOk_l (by simp [PyData.depth]) (by simp [noDict]) (by simp [noDict]))]; simp [PyData.eqv]
@[simp] theorem o2_ne_b (x y : Bool) : op2 .ne (.bool x) (.bool y) = .ok (.bool (!(x == y))) := by
  rw [o2_ne (eqOk_l (by simp [PyData.depth]) (by simp [noDict]) (by simp [noDict]))]; simp [PyData.eqv]
theorem o2_idx_t {xs : List D} {i : Int} {d : D} (h : L2.atI xs i = some d) : op2 .idx (.tuple xs) (.int i) = .ok d := by
  show (match L2.atI xs i with | some d => Res.ok d | none => .bad) = _
  rw [h]
theorem o2_idx_s {x : Str} {i : Int} {c : Nat} (h : L2.atI x.cps.toList i = some c) : op2 .idx (.str x) (.int i) = .ok (.str ⟨#[c]⟩) := by
  show (match L2.atI x.cps.toList i with | some c => Res.ok (PyData.str ⟨#[c]⟩) | none => .bad) = _
  rw [h]
theorem o2_idx_scr {xs : List D} {i : Int} {d : D} (h : L2.atI xs i = some d) : op2 .idx (scrD xs) (.int i) = .ok d := by
  show (match L2.atI xs i with | some d => Res.ok d | none => .bad) = _
  rw [h]
@[simp] theorem o2_idx_t0 (a : D) (l : List D) : op2 .idx (.tuple (a :: l)) (.int 0) = .ok a := o2_idx_t (atI_nat (j := 0) rfl)
@[simp] theorem o2_idx_t1 (a b : D) (l : List D) : op2 .idx (.tuple (a :: b :: l)) (.int 1) = .ok b := o2_idx_t (atI_nat (j := 1) rfl)
@[simp] theorem o1_len_scr (xs : List D) : op1 .len (scrD xs) = .ok (.int xs.length) := rfl
@[simp] theorem o1_len_t (xs : List D) : op1 .len (.tuple xs) = .ok (.int xs.length) := rfl
@[simp] theorem o1_len_l (xs : List D) : op1 .len (.list xs) = .ok (.int xs.length) := rfl
@[simp] theorem o1_len_s (x : Str) : op1 .len (.str x) = .ok (.int x.length) := rfl
@[simp] theorem o1_not_b (b : Bool) : op1 .not (.bool b) = .ok (.bool (!b)) := rfl
theorem atI_in {α : Type} {xs : List α} {i : Int} (h0 : 0 ≤ i) (h1 : i < xs.length) : ∃ x, x ∈ xs ∧ L2.atI xs i = some x ∧ xs[i.toNat]? = some x := by
  have hi : i.toNat < xs.length := by omega
  refine ⟨xs[i.toNat], List.getElem_mem hi, ?_, by simp⟩
  have e : ((i.toNat : Nat) : Int) = i := by omega
  have := atI_nat (xs := xs) (j := i.toNat) (v := xs[i.toNat]) (by simp [hi])
  rw [e] at this
  exact this
/-- each item by a function -/
theorem eachD_map {f : D → Res (Option D)} {g : D → D} : ∀ {ds : List D}, (∀ d ∈ ds, f d = .ok (some (g d))) → eachD f ds = .ok (ds.map g)
  | [], _ => rfl
  | d :: ds, h => by
    simp only [eachD, h d (by simp), bind_ok, eachD_map fun x hx => h x (List.mem_cons_of_mem _ hx), List.map_cons]
theorem comp_nm {ρ : Nat → List D → Res D} {i : Nat} {it : IT} {elt : IE} {env : En} {ds : List D} {g : D → D} (hi : evalIT ρ it env = .ok ds) (h : ∀ d ∈ ds, evalE ρ elt (env.set i (some d)) = .ok (g d)) : evalE ρ (.comp (.nm i) it elt) env = .ok (.list (ds.map g)) := by
  simp only [evalE, hi, bind_ok, put_nm]
  rw [eachD_map (g := g) fun d hd => by rw [h d hd]; rfl]
  rfl
/-- a loop by what holds between its turns -/
theorem forD_inv {f : D → En → Res Fl} (P : En → Prop) : ∀ {ds : List D} {env : En}, (∀ d ∈ ds, ∀ env, P env → ∃ e, f d env = .ok (.next e) ∧ P e) → P env → ∃ e, forD f ds env = .ok (.next e) ∧ P e
  | [], env, _, p => ⟨env, rfl, p⟩
  | d :: ds, env, h, p => by
    obtain ⟨e, e1, p1⟩ := h d (by simp) env p
    obtain ⟨e', e2, p2⟩ := forD_inv P (fun x hx => h x (List.mem_cons_of_mem _ hx)) p1
    exact ⟨e', by simp only [forD, e1, bind_ok, Fl.go_next, e2], p2⟩
theorem mem_range : ∀ {n : Nat} {lo : Int} {d : D}, d ∈ rangeD lo n → ∃ k : Int, d = .int k ∧ lo ≤ k ∧ k < lo + n
  | 0, _, _, h => by simp [rangeD] at h
  | n + 1, lo, d, h => by
    simp only [rangeD, List.mem_cons] at h
    rcases h with rfl | h
    · exact ⟨lo, rfl, by omega, by omega⟩
    · obtain ⟨k, h1, h2, h3⟩ := mem_range (n := n) (lo := lo + 1) h
      exact ⟨k, h1, by omega, by push_cast; omega⟩
theorem rng1_ok {n : Int} (h : 0 ≤ n) (h' : n ≤ 1000000) : rng1D (.int n) = .ok (rangeD 0 n.toNat) := by
  show (if decide (-(2 ^ 62) ≤ n ∧ n ≤ (sizeLine : Int)) then Res.ok (rangeD 0 n.toNat) else .bad) = _
  rw [if_pos (decide_eq_true ⟨by omega, by rw [sizeLine_eq]; omega⟩)]
theorem seq_next {s : IS} {ss : ISs} {env e : En} {r : Res Fl} (h : evalS ρ s env = .ok (.next e)) (h' : evalSs ρ ss e = r) : evalSs ρ (.cons s ss) env = r := by
  simp only [evalSs, h, bind_ok, Fl.go_next, h']
theorem call_of {defs : Nat → Option FDef} {f : Nat} {fd : FDef} (h : defs f = some fd) (n : Nat) (ds : List D) : callF defs (n + 1) f ds = runF (callF defs n) fd ds := by
  simp only [callF, h]
theorem all_map_b (l : List D) (g : D → Bool) : boolsD (l.map fun d => .bool (g d)) = some (l.map g) := by
  induction l with
  | nil => rfl
  | cons a l ih => simp only [List.map_cons, boolsD, ih, Option.map_some]
theorem o1_all (l : List D) (g : D → Bool) : op1 .all (.list (l.map fun d => .bool (g d))) = .ok (.bool (l.all g)) := by
  show (match boolsD (l.map fun d => PyData.bool (g d)) with | some bs => Res.ok (PyData.bool (bs.all id)) | none => .bad) = _
  rw [all_map_b]
  simp [List.all_map]
theorem o1_any (l : List D) (g : D → Bool) : op1 .any (.list (l.map fun d => .bool (g d))) = .ok (.bool (l.any g)) := by
  show (match boolsD (l.map fun d => PyData.bool (g d)) with | some bs => Res.ok (PyData.bool (bs.any id)) | none => .bad) = _
  rw [all_map_b]
  simp [List.any_map]
theorem comp_any {t : Tg} {it : IT} {elt : IE} {env : En} {ds : List D} {g : D → D} (hi : evalIT ρ it env = .ok ds) (h : ∀ d ∈ ds, ∃ e, t.put d env = .ok e ∧ evalE ρ elt e = .ok (g d)) : evalE ρ (.comp t it elt) env = .ok (.list (ds.map g)) := by
  simp only [evalE, hi, bind_ok]
  rw [eachD_map (g := g) fun d hd => by
    obtain ⟨e, h1, h2⟩ := h d hd
    simp only [h1, h2, bind_ok]]
  rfl
theorem eachD_filter {f : D → Res (Option D)} {g : D → D} {p : D → Bool} : ∀ {ds : List D}, (∀ d ∈ ds, f d = .ok (if p d then some (g d) else none)) → eachD f ds = .ok ((ds.filter p).map g)
  | [], _ => rfl
  | d :: ds, h => by
    simp only [eachD, h d (by simp), bind_ok, eachD_filter fun x hx => h x (List.mem_cons_of_mem _ hx), List.filter_cons]
    cases p d <;> rfl
theorem compIf_any {t : Tg} {it : IT} {c elt : IE} {env : En} {ds : List D} {g : D → D} {p : D → Bool} (hi : evalIT ρ it env = .ok ds) (h : ∀ d ∈ ds, ∃ e, t.put d env = .ok e ∧ (evalE ρ c e).bind truth = .ok (p d) ∧ (p d = true → evalE ρ elt e = .ok (g d))) : evalE ρ (.compIf t it c elt) env = .ok (.list ((ds.filter p).map g)) := by
  simp only [evalE, hi, bind_ok]
  rw [eachD_filter (g := g) (p := p) fun d hd => by
    obtain ⟨e, h1, h2, h3⟩ := h d hd
    obtain ⟨y, h4, h5⟩ := bind_split h2
    simp only [h1, h4, h5, bind_ok]
    cases q : p d with
    | true => simp only [if_true, h3 q, bind_ok]
    | false => simp]
  rfl
theorem compK_any {i : Nat} {a elt : IE} {env : En} {u : D} {ds : List D} {g : D → D} (ha : evalE ρ a env = .ok u) (hk : keysOf u = .ok ds) (h : ∀ d ∈ ds, evalE ρ elt (env.set i (some d)) = .ok (g d)) : evalE ρ (.compK i a elt) env = .ok (.list (ds.map g)) := by
  simp only [evalE, ha, hk, bind_ok]
  rw [eachD_map (g := g) fun d hd => by rw [h d hd]; rfl]
  rfl
/-- a loop that ends with r at the first one that is not p -/
theorem forD_find {f : D → En → Res Fl} {P : En → Prop} {p : D → Bool} {r : D} : ∀ {ds : List D} {env : En}, (∀ d ∈ ds, ∀ env, P env → (p d = true → ∃ e, f d env = .ok (.next e) ∧ P e) ∧ (p d = false → f d env = .ok (.ret r))) → P env →
    (ds.all p = true → ∃ e, forD f ds env = .ok (.next e) ∧ P e) ∧ (ds.all p = false → forD f ds env = .ok (.ret r))
  | [], env, _, h0 => ⟨fun _ => ⟨env, rfl, h0⟩, fun h => nomatch h⟩
  | d :: ds, env, h, h0 => by
    obtain ⟨h1, h2⟩ := h d (by simp) env h0
    rw [List.all_cons]
    cases q : p d with
    | true =>
      obtain ⟨e, e1, p1⟩ := h1 q
      obtain ⟨g1, g2⟩ := forD_find (ds := ds) (fun x hx => h x (List.mem_cons_of_mem _ hx)) p1
      simp only [Bool.true_and, forD, e1, bind_ok, Fl.go_next]
      exact ⟨g1, g2⟩
    | false =>
      simp only [Bool.false_and, forD, h2 q, bind_ok, Fl.go_ret]
      exact ⟨fun h => (nomatch (show false = true from h)), fun _ => trivial⟩
theorem o2_in {a : D} {ds : List D} (h : inOk a ds = true) : op2 .in_ a (.tuple ds) = .ok (.bool (ds.any fun z => PyData.eqv z a)) := by
  show (inSeq a ds).bind (fun t => Res.ok (PyData.bool t)) = _
  unfold inSeq
  rw [if_pos h]; rfl
theorem o2_notin {a : D} {ds : List D} (h : inOk a ds = true) : op2 .notin a (.tuple ds) = .ok (.bool (!ds.any fun z => PyData.eqv z a)) := by
  show (inSeq a ds).bind (fun t => Res.ok (PyData.bool (!t))) = _
  unfold inSeq
  rw [if_pos h]; rfl
theorem o2_in_sign (c : Nat) (y : Str) : op2 .in_ (.str ⟨#[c]⟩) (.str y) = .ok (.bool (decide (c ∈ y.cps.toList))) := rfl
theorem fits_of {n : Nat} (h : n ≤ 1000000) : fits n = true := decide_eq_true (by rw [sizeLine_eq]; omega)
theorem o2_add_t {xs ys : List D} (h : xs.length + ys.length ≤ 100000) : op2 .add (.tuple xs) (.tuple ys) = .ok (.tuple (xs ++ ys)) := by
  show (if fits (xs.length + ys.length) then Res.ok (PyData.tuple (xs ++ ys)) else .bad) = _
  rw [if_pos (fits_of (by omega))]
theorem o2_add_l {xs ys : List D} (h : xs.length + ys.length ≤ 100000) : op2 .add (.list xs) (.list ys) = .ok (.list (xs ++ ys)) := by
  show (if fits (xs.length + ys.length) then Res.ok (PyData.list (xs ++ ys)) else .bad) = _
  rw [if_pos (fits_of (by omega))]
theorem o2_add_s {x y : Str} (h : x.length + y.length ≤ 100000) : op2 .add (.str x) (.str y) = .ok (.str (x ++ y)) := by
  show (if fits (x.length + y.length) then Res.ok (PyData.str (x ++ y)) else .bad) = _
  rw [if_pos (fits_of (by omega))]
theorem o2_idx_l {xs : List D} {i : Int} {d : D} (h : L2.atI xs i = some d) : op2 .idx (.list xs) (.int i) = .ok d := by
  show (match L2.atI xs i with | some d => Res.ok d | none => .bad) = _
  rw [h]
@[simp] theorem o1_tuple_l (xs : List D) : op1 .tuple (.list xs) = .ok (.tuple xs) := rfl
@[simp] theorem o1_list_t (xs : List D) : op1 .list (.tuple xs) = .ok (.list xs) := rfl
@[simp] theorem o1_list_l (xs : List D) : op1 .list (.list xs) = .ok (.list xs) := rfl
@[simp] theorem o1_rev_t (xs : List D) : op1 .rev (.tuple xs) = .ok (.tuple xs.reverse) := rfl
@[simp] theorem o1_neg_i (i : Int) : op1 .neg (.int i) = .ok (.int (-i)) := rfl
@[simp] theorem o1_int_b (b : Bool) : op1 .int (.bool b) = .ok (.int (if b then 1 else 0)) := rfl
@[simp] theorem o3_sl_t (xs : List D) (a b : D) {l m : Option Int} (h1 : bound a = some l) (h2 : bound b = some m) : op3 .sl (.tuple xs) a b = .ok (.tuple (cutL xs l m)) := by
  show slD _ _ _ = _
  unfold slD; rw [h1, h2]; rfl
@[simp] theorem o3_sl_l (xs : List D) (a b : D) {l m : Option Int} (h1 : bound a = some l) (h2 : bound b = some m) : op3 .sl (.list xs) a b = .ok (.list (cutL xs l m)) := by
  show slD _ _ _ = _
  unfold slD; rw [h1, h2]; rfl
@[simp] theorem o3_sl_s (x : Str) (a b : D) {l m : Option Int} (h1 : bound a = some l) (h2 : bound b = some m) : op3 .sl (.str x) a b = .ok (.str (cutS x l m)) := by
  show slD _ _ _ = _
  unfold slD; rw [h1, h2]; rfl
@[simp] theorem bound_n : bound .none = some none := rfl
@[simp] theorem bound_i (i : Int) : bound (.int i) = some (some i) := rfl
theorem cut_to {α : Type} (xs : List α) (i : Int) (h : 0 ≤ i) : cutL xs none (some i) = xs.take i.toNat := by
  unfold cutL HT.sIx
  simp only [if_neg (show ¬ i < 0 by omega), List.drop_zero, Nat.sub_zero]
  by_cases hi : i.toNat ≤ xs.length
  · rw [Nat.min_eq_left hi]
  · rw [Nat.min_eq_right (by omega), List.take_of_length_le (Nat.le_refl _), List.take_of_length_le (by omega)]
theorem cut_from {α : Type} (xs : List α) (i : Int) (h : 0 ≤ i) : cutL xs (some i) none = xs.drop i.toNat := by
  unfold cutL HT.sIx
  simp only [if_neg (show ¬ i < 0 by omega)]
  by_cases hi : i.toNat ≤ xs.length
  · rw [Nat.min_eq_left hi, List.take_of_length_le (by rw [List.length_drop]; omega)]
  · rw [Nat.min_eq_right (by omega), List.drop_of_length_le (Nat.le_refl _), List.drop_of_length_le (by omega)]
    simp
theorem at_nat {α : Type} {xs : List α} {i : Int} {x : α} (h : 0 ≤ i) (e : xs[i.toNat]? = some x) : L2.atI xs i = some x := by
  have h2 : ((i.toNat : Nat) : Int) = i := by omega
  have := atI_nat (xs := xs) (j := i.toNat) (v := x) e
  rw [h2] at this
  exact this
@[simp] theorem isi_s (x : Str) (t : Ty) : isiD t (.str x) = .ok (.bool (isTy (.str x) t)) := rfl
@[simp] theorem isi_i (x : Int) (t : Ty) : isiD t (.int x) = .ok (.bool (isTy (.int x) t)) := rfl
@[simp] theorem isi_b (x : Bool) (t : Ty) : isiD t (.bool x) = .ok (.bool (isTy (.bool x) t)) := rfl
@[simp] theorem isi_n (t : Ty) : isiD t .none = .ok (.bool (isTy .none t)) := rfl
@[simp] theorem isi_t (x : List D) (t : Ty) : isiD t (.tuple x) = .ok (.bool (isTy (.tuple x) t)) := rfl
@[simp] theorem isi_l (x : List D) (t : Ty) : isiD t (.list x) = .ok (.bool (isTy (.list x) t)) := rfl
end
end Tq

namespace Tq
open PySem L2 Res
instance : Inhabited PF := ⟨⟨0, 0, Str.empty, [], [], []⟩⟩
def w_LETTERS : Str := ⟨#[76, 69, 84, 84, 69, 82, 83]⟩
def w_SORTS : Str := ⟨#[83, 79, 82, 84, 83]⟩
def w_truth : Str := ⟨#[116, 114, 117, 116, 104]⟩
def w_whole : Str := ⟨#[119, 104, 111, 108, 101]⟩
def w_text : Str := ⟨#[116, 101, 120, 116]⟩
def w_gap : Str := ⟨#[103, 97, 112]⟩
def w_value : Str := ⟨#[118, 97, 108, 117, 101]⟩
def w_col : Str := ⟨#[99, 111, 108]⟩
def w_ONE : Str := ⟨#[79, 78, 69]⟩
def w_TWO : Str := ⟨#[84, 87, 79]⟩
def w_if : Str := ⟨#[105, 102]⟩
def w_down : Str := ⟨#[100, 111, 119, 110]⟩
def w_up : Str := ⟨#[117, 112]⟩
def w_count : Str := ⟨#[99, 111, 117, 110, 116]⟩
def w_WHOLE_WORDS : Str := ⟨#[87, 72, 79, 76, 69, 95, 87, 79, 82, 68, 83]⟩
def w_where : Str := ⟨#[119, 104, 101, 114, 101]⟩
def w_take : Str := ⟨#[116, 97, 107, 101]⟩
def w_add : Str := ⟨#[97, 100, 100]⟩
def w_name : Str := ⟨#[110, 97, 109, 101]⟩
def w_first : Str := ⟨#[102, 105, 114, 115, 116]⟩
def w_sort : Str := ⟨#[115, 111, 114, 116]⟩
def w_group : Str := ⟨#[103, 114, 111, 117, 112]⟩
def w_left : Str := ⟨#[108, 101, 102, 116]⟩
def w_join : Str := ⟨#[106, 111, 105, 110]⟩
def w_minus : Str := ⟨#[109, 105, 110, 117, 115]⟩
def w_both : Str := ⟨#[98, 111, 116, 104]⟩
def w_once : Str := ⟨#[111, 110, 99, 101]⟩
def w_table : Str := ⟨#[116, 97, 98, 108, 101]⟩
def w_sixsix : Str := ⟨#[115, 105, 120, 115, 105, 120]⟩
def w_x : Str := ⟨#[120]⟩
def w_a : Str := ⟨#[97]⟩
def w_lacks : Str := ⟨#[108, 97, 99, 107, 115]⟩
def w_not : Str := ⟨#[110, 111, 116]⟩
def w_size : Str := ⟨#[115, 105, 122, 101]⟩
def w_else : Str := ⟨#[101, 108, 115, 101]⟩
def w_or : Str := ⟨#[111, 114]⟩
def w_and : Str := ⟨#[97, 110, 100]⟩
def w_same : Str := ⟨#[115, 97, 109, 101]⟩
def w_below : Str := ⟨#[98, 101, 108, 111, 119]⟩
def w_glue : Str := ⟨#[103, 108, 117, 101]⟩
def w_times : Str := ⟨#[116, 105, 109, 101, 115]⟩
def w_less : Str := ⟨#[108, 101, 115, 115]⟩
def w_plus : Str := ⟨#[112, 108, 117, 115]⟩
def w_house : Str := ⟨#[104, 111, 117, 115, 101]⟩
def w_b : Str := ⟨#[98]⟩
def w_new : Str := ⟨#[110, 101, 119]⟩
def w_d : Str := ⟨#[100]⟩
def w_c : Str := ⟨#[99]⟩
def w_every : Str := ⟨#[101, 118, 101, 114, 121]⟩
def w_l : Str := ⟨#[108]⟩
def w_sum : Str := ⟨#[115, 117, 109]⟩
def w_m : Str := ⟨#[109]⟩
def w_n : Str := ⟨#[110]⟩
def w_A : Str := ⟨#[65]⟩
def s_e : Str := ⟨#[]⟩
def s_32 : Str := ⟨#[32]⟩
def w_z : Str := ⟨#[122]⟩
def w_any : Str := ⟨#[97, 110, 121]⟩
def w_most : Str := ⟨#[109, 111, 115, 116]⟩
def w_least : Str := ⟨#[108, 101, 97, 115, 116]⟩
def w_abcdefghijklmnopqrstuvwxyz : Str := ⟨#[97, 98, 99, 100, 101, 102, 103, 104, 105, 106, 107, 108, 109, 110, 111, 112, 113, 114, 115, 116, 117, 118, 119, 120, 121, 122]⟩
def g_SORTS : D := (.tuple [(.str w_whole), (.str w_text), (.str w_truth)])
def g_LETTERS : D := (.str w_abcdefghijklmnopqrstuvwxyz)
def g_TWO : D := (.tuple [(.str w_plus), (.str w_less), (.str w_times), (.str w_glue), (.str w_below), (.str w_same), (.str w_and), (.str w_or), (.str w_else)])
def g_ONE : D := (.tuple [(.str w_size), (.str w_not), (.str w_lacks)])
def g_WHOLE_WORDS : D := (.tuple [(.str w_sum), (.str w_least), (.str w_most), (.str w_any), (.str w_every)])
def GL : List (Str × D) := [(w_SORTS, g_SORTS), (w_LETTERS, g_LETTERS), (w_TWO, g_TWO), (w_ONE, g_ONE), (w_WHOLE_WORDS, g_WHOLE_WORDS)]
namespace F
abbrev is_name : Nat := 0
abbrev is_sort : Nat := 1
abbrev sort_of : Nat := 2
abbrev are_unlike : Nat := 3
abbrev are_tuples : Nat := 4
abbrev is_sum_in : Nat := 5
abbrev is_sum : Nat := 6
abbrev are_names : Nat := 7
abbrev are_keys : Nat := 8
abbrev is_heap : Nat := 9
abbrev are_pairs : Nat := 10
abbrev are_parts : Nat := 11
abbrev is_quest_in : Nat := 12
abbrev is_quest : Nat := 13
abbrev law_cell : Nat := 14
abbrev law_mix : Nat := 15
abbrev law_any_sum : Nat := 16
abbrev law_any_quest : Nat := 17
abbrev law_odd : Nat := 18
abbrev law_is_name : Nat := 19
abbrev law_is_sum : Nat := 20
abbrev law_are_names : Nat := 21
abbrev law_are_pairs : Nat := 22
abbrev law_is_heap : Nat := 23
abbrev law_is_quest : Nat := 24
abbrev law_is_other : Nat := 25
abbrev law : Nat := 26
end F
def c_is_name_0 : IE := .comp (.nm 1) (.seq (.var 0)) (.o2 .in_ (.var 1) (.glob w_LETTERS g_LETTERS))
def f_is_name : FDef := { n := 2, arity := 1, body :=
  (.cons (.ret (.and_ (.isi (.var 0) .str) (.and_ (.chain .le .le (.int 1) (.o1 .len (.var 0)) (.int 6)) (.o1 .all c_is_name_0)))) .nil) }
def f_is_sort : FDef := { n := 1, arity := 1, body :=
  (.cons (.ret (.and_ (.isi (.var 0) .str) (.o2 .in_ (.var 0) (.glob w_SORTS g_SORTS)))) .nil) }
def f_sort_of : FDef := { n := 1, arity := 1, body :=
  (.cons (.if_ (.isi (.var 0) .bool) (.cons (.ret (.str w_truth)) .nil) .nil) (.cons (.if_ (.isi (.var 0) .int) (.cons (.ret (.str w_whole)) .nil) .nil) (.cons (.if_ (.isi (.var 0) .str) (.cons (.ret (.str w_text)) .nil) .nil) (.cons (.ret .non) .nil)))) }
def f_are_unlike : FDef := { n := 1, arity := 1, body :=
  (.cons (.ret (.o2 .eq (.o1 .lenSet (.var 0)) (.o1 .len (.var 0)))) .nil) }
def c_are_tuples_0 : IE := .comp (.nm 2) (.seq (.var 0)) (.and_ (.isi (.var 2) .tuple) (.o2 .eq (.o1 .len (.var 2)) (.var 1)))
def f_are_tuples : FDef := { n := 3, arity := 2, body :=
  (.cons (.ret (.and_ (.isi (.var 0) .tuple) (.o1 .all c_are_tuples_0))) .nil) }
def c_is_sum_in_0 : IE := .comp (.nm 4) (.seq (.o3 .sl (.var 0) (.int 1) .non)) (.call F.is_sum_in (.cons (.var 4) (.cons (.o2 .sub (.var 1) (.int 1)) .nil)))
def f_is_sum_in : FDef := { n := 5, arity := 2, body :=
  (.cons (.if_ (.or_ (.o2 .eq (.var 1) (.int 0)) (.or_ (.o1 .not (.isi (.var 0) .tuple)) (.or_ (.o2 .lt (.o1 .len (.var 0)) (.int 2)) (.o1 .not (.isi (.o2 .idx (.var 0) (.int 0)) .str))))) (.cons (.ret (.bl false)) .nil) .nil) (.cons (.asg (.nm 2) (.o2 .idx (.var 0) (.int 0))) (.cons (.if_ (.o2 .in_ (.var 2) (.tup (.cons (.str w_col) (.cons (.str w_value) (.cons (.str w_gap) .nil))))) (.cons (.if_ (.o2 .ne (.o1 .len (.var 0)) (.int 2)) (.cons (.ret (.bl false)) .nil) .nil) (.cons (.if_ (.o2 .eq (.var 2) (.str w_col)) (.cons (.ret (.call F.is_name (.cons (.o2 .idx (.var 0) (.int 1)) .nil))) .nil) .nil) (.cons (.if_ (.o2 .eq (.var 2) (.str w_gap)) (.cons (.ret (.call F.is_sort (.cons (.o2 .idx (.var 0) (.int 1)) .nil))) .nil) .nil) (.cons (.ret (.o2 .isnot (.call F.sort_of (.cons (.o2 .idx (.var 0) (.int 1)) .nil)) .non)) .nil)))) .nil) (.cons (.asg (.nm 3) (.o2 .add (.o2 .add (.o2 .mul (.int 1) (.o1 .int (.o2 .in_ (.var 2) (.glob w_ONE g_ONE)))) (.o2 .mul (.int 2) (.o1 .int (.o2 .in_ (.var 2) (.glob w_TWO g_TWO))))) (.o2 .mul (.int 3) (.o1 .int (.o2 .eq (.var 2) (.str w_if)))))) (.cons (.ret (.and_ (.o2 .gt (.var 3) (.int 0)) (.and_ (.o2 .eq (.o1 .len (.var 0)) (.o2 .add (.var 3) (.int 1))) (.o1 .all c_is_sum_in_0)))) .nil))))) }
def f_is_sum : FDef := { n := 1, arity := 1, body :=
  (.cons (.ret (.call F.is_sum_in (.cons (.var 0) (.cons (.int 5) .nil)))) .nil) }
def c_are_names_0 : IE := .comp (.nm 2) (.seq (.var 0)) (.call F.is_name (.cons (.var 2) .nil))
def f_are_names : FDef := { n := 3, arity := 2, body :=
  (.cons (.if_ (.or_ (.o1 .not (.isi (.var 0) .tuple)) (.o2 .lt (.o1 .len (.var 0)) (.var 1))) (.cons (.ret (.bl false)) .nil) .nil) (.cons (.ret (.and_ (.o1 .all c_are_names_0) (.call F.are_unlike (.cons (.var 0) .nil)))) .nil)) }
def c_are_keys_0 : IE := .comp (.tu (.cons (.nm 1) (.cons (.nm 2) .nil))) (.seq (.var 0)) (.and_ (.isi (.var 2) .str) (.o2 .in_ (.var 2) (.tup (.cons (.str w_up) (.cons (.str w_down) .nil)))))
def c_are_keys_1 : IE := .comp (.tu (.cons (.nm 1) (.cons (.nm 2) .nil))) (.seq (.var 0)) (.var 1)
def f_are_keys : FDef := { n := 3, arity := 1, body :=
  (.cons (.if_ (.or_ (.o1 .not (.call F.are_tuples (.cons (.var 0) (.cons (.int 2) .nil)))) (.o2 .eq (.o1 .len (.var 0)) (.int 0))) (.cons (.ret (.bl false)) .nil) .nil) (.cons (.if_ (.o1 .not (.o1 .all c_are_keys_0)) (.cons (.ret (.bl false)) .nil) .nil) (.cons (.ret (.call F.are_names (.cons (.o1 .tuple c_are_keys_1) (.cons (.int 1) .nil)))) .nil))) }
def f_is_heap : FDef := { n := 4, arity := 1, body :=
  (.cons (.asg (.tu (.cons (.nm 1) (.cons (.nm 2) (.cons (.nm 3) .nil)))) (.var 0)) (.cons (.if_ (.or_ (.o1 .not (.call F.is_name (.cons (.var 1) .nil))) (.o1 .not (.isi (.var 2) .str))) (.cons (.ret (.bl false)) .nil) .nil) (.cons (.if_ (.o2 .eq (.var 2) (.str w_count)) (.cons (.ret (.o2 .is (.var 3) .non)) .nil) .nil) (.cons (.ret (.and_ (.o2 .in_ (.var 2) (.glob w_WHOLE_WORDS g_WHOLE_WORDS)) (.call F.is_name (.cons (.var 3) .nil)))) .nil)))) }
def c_are_pairs_0 : IE := .comp (.nm 2) (.seq (.var 0)) (.o2 .idx (.var 2) (.var 1))
def c_are_pairs_1 : IE := .comp (.nm 1) (.seq (.tup (.cons (.int 0) (.cons (.int 1) .nil)))) (.call F.are_names (.cons (.o1 .tuple c_are_pairs_0) (.cons (.int 1) .nil)))
def f_are_pairs : FDef := { n := 3, arity := 1, body :=
  (.cons (.if_ (.or_ (.o1 .not (.call F.are_tuples (.cons (.var 0) (.cons (.int 2) .nil)))) (.o2 .eq (.o1 .len (.var 0)) (.int 0))) (.cons (.ret (.bl false)) .nil) .nil) (.cons (.ret (.o1 .all c_are_pairs_1)) .nil)) }
def c_are_parts_0 : IE := .comp (.nm 2) (.seq (.o2 .idx (.var 1) (.int 1))) (.call F.is_heap (.cons (.var 2) .nil))
def f_are_parts : FDef := { n := 3, arity := 2, body :=
  (.cons (.if_ (.o2 .eq (.var 0) (.str w_where)) (.cons (.ret (.and_ (.o2 .eq (.o1 .len (.var 1)) (.int 1)) (.call F.is_sum (.cons (.o2 .idx (.var 1) (.int 0)) .nil)))) .nil) .nil) (.cons (.if_ (.o2 .eq (.var 0) (.str w_take)) (.cons (.ret (.and_ (.o2 .eq (.o1 .len (.var 1)) (.int 1)) (.call F.are_names (.cons (.o2 .idx (.var 1) (.int 0)) (.cons (.int 1) .nil))))) .nil) .nil) (.cons (.if_ (.o2 .eq (.var 0) (.str w_add)) (.cons (.ret (.and_ (.o2 .eq (.o1 .len (.var 1)) (.int 2)) (.and_ (.call F.is_name (.cons (.o2 .idx (.var 1) (.int 0)) .nil)) (.call F.is_sum (.cons (.o2 .idx (.var 1) (.int 1)) .nil))))) .nil) .nil) (.cons (.if_ (.o2 .eq (.var 0) (.str w_name)) (.cons (.ret (.and_ (.o2 .eq (.o1 .len (.var 1)) (.int 2)) (.and_ (.call F.is_name (.cons (.o2 .idx (.var 1) (.int 0)) .nil)) (.call F.is_name (.cons (.o2 .idx (.var 1) (.int 1)) .nil))))) .nil) .nil) (.cons (.if_ (.o2 .eq (.var 0) (.str w_first)) (.cons (.ret (.and_ (.o2 .eq (.o1 .len (.var 1)) (.int 1)) (.and_ (.isi (.o2 .idx (.var 1) (.int 0)) .int) (.and_ (.o1 .not (.isi (.o2 .idx (.var 1) (.int 0)) .bool)) (.o2 .ge (.o2 .idx (.var 1) (.int 0)) (.int 0)))))) .nil) .nil) (.cons (.if_ (.o2 .eq (.var 0) (.str w_sort)) (.cons (.ret (.and_ (.o2 .eq (.o1 .len (.var 1)) (.int 1)) (.call F.are_keys (.cons (.o2 .idx (.var 1) (.int 0)) .nil)))) .nil) .nil) (.cons (.if_ (.o2 .eq (.var 0) (.str w_group)) (.cons (.if_ (.or_ (.o2 .ne (.o1 .len (.var 1)) (.int 2)) (.or_ (.o1 .not (.call F.are_names (.cons (.o2 .idx (.var 1) (.int 0)) (.cons (.int 0) .nil)))) (.or_ (.o1 .not (.call F.are_tuples (.cons (.o2 .idx (.var 1) (.int 1)) (.cons (.int 3) .nil)))) (.o2 .eq (.o1 .len (.o2 .idx (.var 1) (.int 1))) (.int 0))))) (.cons (.ret (.bl false)) .nil) .nil) (.cons (.ret (.o1 .all c_are_parts_0)) .nil)) .nil) (.cons (.if_ (.o2 .in_ (.var 0) (.tup (.cons (.str w_join) (.cons (.str w_left) .nil)))) (.cons (.ret (.and_ (.o2 .eq (.o1 .len (.var 1)) (.int 1)) (.call F.are_pairs (.cons (.o2 .idx (.var 1) (.int 0)) .nil)))) .nil) .nil) (.cons (.ret (.and_ (.o2 .eq (.o1 .len (.var 1)) (.int 0)) (.o2 .in_ (.var 0) (.tup (.cons (.str w_once) (.cons (.str w_both) (.cons (.str w_minus) .nil))))))) .nil))))))))) }
def c_is_quest_in_0 : IE := .comp (.nm 4) (.seq (.o3 .sl (.var 0) (.int 1) (.o2 .add (.var 3) (.int 1)))) (.call F.is_quest_in (.cons (.var 4) (.cons (.o2 .sub (.var 1) (.int 1)) .nil)))
def f_is_quest_in : FDef := { n := 5, arity := 2, body :=
  (.cons (.if_ (.or_ (.o2 .eq (.var 1) (.int 0)) (.or_ (.o1 .not (.isi (.var 0) .tuple)) (.or_ (.o2 .lt (.o1 .len (.var 0)) (.int 2)) (.o1 .not (.isi (.o2 .idx (.var 0) (.int 0)) .str))))) (.cons (.ret (.bl false)) .nil) .nil) (.cons (.asg (.nm 2) (.o2 .idx (.var 0) (.int 0))) (.cons (.if_ (.o2 .eq (.var 2) (.str w_table)) (.cons (.ret (.and_ (.o2 .eq (.o1 .len (.var 0)) (.int 2)) (.call F.is_name (.cons (.o2 .idx (.var 0) (.int 1)) .nil)))) .nil) .nil) (.cons (.asg (.nm 3) (.o2 .add (.int 1) (.o1 .int (.o2 .in_ (.var 2) (.tup (.cons (.str w_join) (.cons (.str w_left) (.cons (.str w_both) (.cons (.str w_minus) .nil))))))))) (.cons (.if_ (.or_ (.o2 .lt (.o1 .len (.var 0)) (.o2 .add (.var 3) (.int 1))) (.o1 .not (.o1 .all c_is_quest_in_0))) (.cons (.ret (.bl false)) .nil) .nil) (.cons (.ret (.call F.are_parts (.cons (.var 2) (.cons (.o3 .sl (.var 0) (.o2 .add (.var 3) (.int 1)) .non) .nil)))) .nil)))))) }
def f_is_quest : FDef := { n := 1, arity := 1, body :=
  (.cons (.ret (.call F.is_quest_in (.cons (.var 0) (.cons (.int 6) .nil)))) .nil) }
def f_law_cell : FDef := { n := 2, arity := 2, body :=
  (.cons (.if_ (.o2 .lt (.var 1) (.o1 .len (.var 0))) (.cons (.ret (.o2 .idx (.var 0) (.var 1))) .nil) .nil) (.cons (.ret (.int 0)) .nil)) }
def f_law_mix : FDef := { n := 4, arity := 3, body :=
  (.cons (.asg (.nm 3) (.o2 .mod (.o2 .mul (.var 0) (.int 48271)) (.var 1))) (.cons (.ret (.o2 .mod (.o2 .mod (.o2 .mul (.var 3) (.o2 .add (.var 3) (.int 7))) (.var 1)) (.var 2))) .nil)) }
def f_law_any_sum : FDef := { n := 7, arity := 2, body :=
  (.cons (.asg (.nm 2) (.call F.law_mix (.cons (.var 0) (.cons (.int 9973) (.cons (.int 12) .nil))))) (.cons (.if_ (.or_ (.o2 .eq (.var 1) (.int 1)) (.o2 .lt (.var 2) (.int 4))) (.cons (.asg (.nm 4) (.tup (.cons (.tup (.cons (.str w_col) (.cons (.str w_a) .nil))) (.cons (.tup (.cons (.str w_value) (.cons (.int 7) .nil))) (.cons (.tup (.cons (.str w_value) (.cons (.str w_x) .nil))) (.cons (.tup (.cons (.str w_value) (.cons (.bl true) .nil))) (.cons (.tup (.cons (.str w_gap) (.cons (.str w_text) .nil))) (.cons (.tup (.cons (.str w_col) (.cons (.str w_sixsix) .nil))) .nil)))))))) (.cons (.ret (.o2 .idx (.var 4) (.call F.law_mix (.cons (.var 0) (.cons (.int 9967) (.cons (.int 6) .nil)))))) .nil)) .nil) (.cons (.par 5 6 (.call F.law_any_sum (.cons (.o2 .add (.o2 .mul (.var 0) (.int 3)) (.int 1)) (.cons (.o2 .sub (.var 1) (.int 1)) .nil))) (.call F.law_any_sum (.cons (.o2 .add (.o2 .mul (.var 0) (.int 3)) (.int 2)) (.cons (.o2 .sub (.var 1) (.int 1)) .nil)))) (.cons (.if_ (.o2 .lt (.var 2) (.int 6)) (.cons (.ret (.tup (.cons (.o2 .idx (.tup (.cons (.str w_size) (.cons (.str w_not) (.cons (.str w_lacks) .nil)))) (.call F.law_mix (.cons (.var 0) (.cons (.int 9949) (.cons (.int 3) .nil))))) (.cons (.var 5) .nil)))) .nil) .nil) (.cons (.if_ (.o2 .eq (.var 2) (.int 6)) (.cons (.ret (.tup (.cons (.str w_if) (.cons (.var 5) (.cons (.var 6) (.cons (.var 5) .nil)))))) .nil) .nil) (.cons (.asg (.nm 3) (.tup (.cons (.str w_plus) (.cons (.str w_less) (.cons (.str w_times) (.cons (.str w_glue) (.cons (.str w_below) (.cons (.str w_same) (.cons (.str w_and) (.cons (.str w_or) (.cons (.str w_else) .nil))))))))))) (.cons (.ret (.tup (.cons (.o2 .idx (.var 3) (.call F.law_mix (.cons (.var 0) (.cons (.int 9941) (.cons (.int 9) .nil))))) (.cons (.var 5) (.cons (.var 6) .nil))))) .nil))))))) }
def f_law_any_quest : FDef := { n := 8, arity := 2, body :=
  (.cons (.asg (.nm 2) (.call F.law_mix (.cons (.var 0) (.cons (.int 9931) (.cons (.int 14) .nil))))) (.cons (.if_ (.or_ (.o2 .eq (.var 1) (.int 1)) (.o2 .lt (.var 2) (.int 2))) (.cons (.ret (.tup (.cons (.str w_table) (.cons (.o2 .idx (.tup (.cons (.str w_a) (.cons (.str w_b) (.cons (.str w_house) .nil)))) (.call F.law_mix (.cons (.var 0) (.cons (.int 9929) (.cons (.int 3) .nil))))) .nil)))) .nil) .nil) (.cons (.asg (.nm 3) (.call F.law_any_quest (.cons (.o2 .add (.o2 .mul (.var 0) (.int 3)) (.int 1)) (.cons (.o2 .sub (.var 1) (.int 1)) .nil)))) (.cons (.if_ (.o2 .lt (.var 2) (.int 4)) (.cons (.ret (.tup (.cons (.str w_where) (.cons (.var 3) (.cons (.call F.law_any_sum (.cons (.o2 .add (.var 0) (.int 3)) (.cons (.int 3) .nil))) .nil))))) .nil) .nil) (.cons (.if_ (.o2 .eq (.var 2) (.int 4)) (.cons (.ret (.tup (.cons (.str w_add) (.cons (.var 3) (.cons (.str w_new) (.cons (.call F.law_any_sum (.cons (.o2 .add (.var 0) (.int 3)) (.cons (.int 3) .nil))) .nil)))))) .nil) .nil) (.cons (.if_ (.o2 .gt (.var 2) (.int 9)) (.cons (.asg (.nm 6) (.call F.law_any_quest (.cons (.o2 .add (.o2 .mul (.var 0) (.int 3)) (.int 2)) (.cons (.o2 .sub (.var 1) (.int 1)) .nil)))) (.cons (.asg (.nm 7) (.o3 .sl (.tup (.cons (.tup (.cons (.str w_a) (.cons (.str w_b) .nil))) (.cons (.tup (.cons (.str w_c) (.cons (.str w_d) .nil))) .nil))) .non (.o2 .add (.int 1) (.call F.law_mix (.cons (.var 0) (.cons (.int 9923) (.cons (.int 2) .nil))))))) (.cons (.ret (.o2 .idx (.tup (.cons (.tup (.cons (.str w_join) (.cons (.var 3) (.cons (.var 6) (.cons (.var 7) .nil))))) (.cons (.tup (.cons (.str w_left) (.cons (.var 3) (.cons (.var 6) (.cons (.var 7) .nil))))) (.cons (.tup (.cons (.str w_both) (.cons (.var 3) (.cons (.var 6) .nil)))) (.cons (.tup (.cons (.str w_minus) (.cons (.var 3) (.cons (.var 6) .nil)))) .nil))))) (.o2 .mod (.var 2) (.int 4)))) .nil))) .nil) (.cons (.asg (.nm 4) (.o3 .sl (.tup (.cons (.tup (.cons (.str w_n) (.cons (.str w_count) (.cons .non .nil)))) (.cons (.tup (.cons (.str w_m) (.cons (.str w_sum) (.cons (.str w_a) .nil)))) (.cons (.tup (.cons (.str w_l) (.cons (.str w_every) (.cons (.str w_b) .nil)))) .nil)))) (.call F.law_mix (.cons (.var 0) (.cons (.int 9907) (.cons (.int 3) .nil)))) .non)) (.cons (.asg (.nm 5) (.tup (.cons (.tup (.cons (.str w_take) (.cons (.var 3) (.cons (.tup (.cons (.str w_a) (.cons (.str w_b) .nil))) .nil)))) (.cons (.tup (.cons (.str w_name) (.cons (.var 3) (.cons (.str w_a) (.cons (.str w_b) .nil))))) (.cons (.tup (.cons (.str w_once) (.cons (.var 3) .nil))) (.cons (.tup (.cons (.str w_first) (.cons (.var 3) (.cons (.int 3) .nil)))) (.cons (.tup (.cons (.str w_group) (.cons (.var 3) (.cons (.tup .nil) (.cons (.var 4) .nil))))) .nil))))))) (.cons (.ret (.o2 .idx (.o2 .add (.var 5) (.tup (.cons (.tup (.cons (.str w_sort) (.cons (.var 3) (.cons (.tup (.cons (.tup (.cons (.str w_a) (.cons (.str w_up) .nil))) (.cons (.tup (.cons (.str w_b) (.cons (.str w_down) .nil))) .nil))) .nil)))) .nil))) (.o2 .add (.o2 .sub (.var 2) (.int 5)) (.call F.law_mix (.cons (.var 0) (.cons (.int 9901) (.cons (.int 2) .nil))))))) .nil))))))))) }
def f_law_odd : FDef := { n := 4, arity := 2, body :=
  (.cons (.if_ (.and_ (.isi (.var 0) .tuple) (.and_ (.o2 .ne (.var 0) (.tup .nil)) (.o2 .gt (.call F.law_mix (.cons (.var 1) (.cons (.int 9781) (.cons (.int 5) .nil)))) (.int 0)))) (.cons (.asg (.nm 3) (.call F.law_mix (.cons (.var 1) (.cons (.int 9769) (.cons (.o1 .len (.var 0)) .nil))))) (.cons (.ret (.o2 .add (.o2 .add (.o3 .sl (.var 0) .non (.var 3)) (.tup (.cons (.call F.law_odd (.cons (.o2 .idx (.var 0) (.var 3)) (.cons (.o2 .add (.o2 .add (.var 1) (.o2 .mul (.int 31) (.var 3))) (.int 7)) .nil))) .nil))) (.o3 .sl (.var 0) (.o2 .add (.var 3) (.int 1)) .non))) .nil)) .nil) (.cons (.asg (.nm 2) (.lst (.cons .non (.cons (.bl true) (.cons (.bl false) (.cons (.int 0) (.cons (.int 1) (.cons (.o1 .neg (.int 1)) (.cons (.int 2) (.cons (.int 7) (.cons (.int 10) (.cons (.int 1000) (.cons (.str s_e) (.cons (.str w_a) (.cons (.str w_A) (.cons (.tup .nil) (.cons (.tup (.cons (.str w_a) .nil)) (.cons (.lst (.cons (.int 1) .nil)) .nil)))))))))))))))))) (.cons (.if_ (.isi (.var 0) .tuple) (.cons (.asg (.nm 2) (.o2 .add (.var 2) (.o2 .mul (.lst (.cons (.o1 .list (.var 0)) (.cons (.o2 .add (.var 0) (.o3 .sl (.var 0) (.o1 .neg (.int 1)) .non)) (.cons (.o3 .sl (.var 0) .non (.o1 .neg (.int 1))) (.cons (.o1 .rev (.var 0)) (.cons (.o3 .sl (.var 0) (.int 1) .non) (.cons (.tup (.cons (.var 0) .nil)) .nil))))))) (.int 2)))) .nil) (.cons (.if_ (.isi (.var 0) .str) (.cons (.asg (.nm 2) (.o2 .add (.var 2) (.o2 .mul (.lst (.cons (.o2 .add (.var 0) (.str w_a)) (.cons (.o3 .sl (.var 0) .non (.o1 .neg (.int 1))) (.cons (.o1 .upper (.var 0)) (.cons (.o2 .add (.var 0) (.str s_32)) (.cons (.o2 .mul (.var 0) (.int 2)) (.cons (.lst (.cons (.var 0) .nil)) (.cons (.o2 .add (.var 0) (.o3 .sl (.var 0) .non (.int 1))) .nil)))))))) (.int 2)))) .nil) (.cons (.if_ (.isi (.var 0) .int) (.cons (.asg (.nm 2) (.o2 .add (.var 2) (.o2 .mul (.lst (.cons (.o2 .add (.var 0) (.int 1)) (.cons (.o2 .sub (.var 0) (.int 1)) (.cons (.o2 .sub (.int 0) (.var 0)) (.cons (.tup (.cons (.var 0) .nil)) (.cons (.o2 .add (.var 0) (.int 2)) (.cons (.o2 .mul (.var 0) (.int 2)) .nil))))))) (.int 2)))) .nil) .nil) .nil)) .nil)) (.cons (.ret (.o2 .idx (.var 2) (.call F.law_mix (.cons (.var 1) (.cons (.int 9749) (.cons (.o1 .len (.var 2)) .nil)))))) .nil)))) }
def c_law_is_name_0 : IE := .compIf (.nm 1) (.seq (.var 0)) (.o1 .not (.chain .le .le (.str w_a) (.var 1) (.str w_z))) (.var 1)
def f_law_is_name : FDef := { n := 2, arity := 1, body :=
  (.cons (.ret (.and_ (.isi (.var 0) .str) (.and_ (.chain .lt .lt (.int 0) (.o1 .len (.var 0)) (.int 7)) (.o2 .eq c_law_is_name_0 (.lst .nil))))) .nil) }
def b_law_is_sum_0 : ISs := (.cons (.put 2 (.var 3) (.int 2)) .nil)
def l_law_is_sum_1 : IS := .for_ (.nm 3) (.seq (.tup (.cons (.str w_plus) (.cons (.str w_less) (.cons (.str w_times) (.cons (.str w_glue) (.cons (.str w_below) (.cons (.str w_same) (.cons (.str w_and) (.cons (.str w_or) (.cons (.str w_else) .nil))))))))))) b_law_is_sum_0
def c_law_is_sum_2 : IE := .compIf (.nm 6) (.seq (.var 5)) (.o1 .not (.call F.law_is_sum (.cons (.var 6) (.cons (.o2 .sub (.var 1) (.int 1)) .nil)))) (.var 6)
def f_law_is_sum : FDef := { n := 7, arity := 2, body :=
  (.cons (.if_ (.or_ (.o1 .not (.isi (.var 0) .tuple)) (.or_ (.o2 .lt (.o1 .len (.var 0)) (.int 2)) (.or_ (.o2 .eq (.var 1) (.int 0)) (.o1 .not (.isi (.o2 .idx (.var 0) (.int 0)) .str))))) (.cons (.ret (.bl false)) .nil) .nil) (.cons (.par 4 5 (.o2 .idx (.var 0) (.int 0)) (.o3 .sl (.var 0) (.int 1) .non)) (.cons (.if_ (.o2 .eq (.var 4) (.str w_col)) (.cons (.ret (.and_ (.o2 .eq (.o1 .len (.var 5)) (.int 1)) (.call F.law_is_name (.cons (.o2 .idx (.var 5) (.int 0)) .nil)))) .nil) .nil) (.cons (.if_ (.o2 .eq (.var 4) (.str w_value)) (.cons (.ret (.and_ (.o2 .eq (.o1 .len (.var 5)) (.int 1)) (.isi (.o2 .idx (.var 5) (.int 0)) .intstr))) .nil) .nil) (.cons (.if_ (.o2 .eq (.var 4) (.str w_gap)) (.cons (.ret (.and_ (.o2 .eq (.o1 .len (.var 5)) (.int 1)) (.o2 .in_ (.o2 .idx (.var 5) (.int 0)) (.tup (.cons (.str w_whole) (.cons (.str w_text) (.cons (.str w_truth) .nil))))))) .nil) .nil) (.cons (.mset 2 (.dsp [w_size, w_not, w_lacks, w_if] (.cons (.int 1) (.cons (.int 1) (.cons (.int 1) (.cons (.int 3) .nil)))))) (.cons l_law_is_sum_1 (.pub [2] (.cons (.if_ (.or_ (.o2 .notin (.var 4) (.var 2)) (.o2 .ne (.o1 .len (.var 5)) (.o2 .idx (.var 2) (.var 4)))) (.cons (.ret (.bl false)) .nil) .nil) (.cons (.ret (.o2 .eq c_law_is_sum_2 (.lst .nil))) .nil)))))))))) }
def c_law_are_names_0 : IE := .compIf (.nm 2) (.seq (.var 0)) (.o1 .not (.call F.law_is_name (.cons (.var 2) .nil))) (.var 2)
def f_law_are_names : FDef := { n := 3, arity := 2, body :=
  (.cons (.if_ (.or_ (.o1 .not (.isi (.var 0) .tuple)) (.or_ (.o2 .lt (.o1 .len (.var 0)) (.var 1)) (.o2 .ne c_law_are_names_0 (.lst .nil)))) (.cons (.ret (.bl false)) .nil) .nil) (.cons (.ret (.o2 .eq (.o1 .lenSet (.var 0)) (.o1 .len (.var 0)))) .nil)) }
def b_law_are_pairs_0 : ISs := (.cons (.if_ (.or_ (.o1 .not (.isi (.var 1) .tuple)) (.or_ (.o2 .ne (.o1 .len (.var 1)) (.int 2)) (.or_ (.o1 .not (.call F.law_is_name (.cons (.o2 .idx (.var 1) (.int 0)) .nil))) (.o1 .not (.isi (.o2 .idx (.var 1) (.int 1)) .str))))) (.cons (.ret (.bl false)) .nil) .nil) .nil)
def l_law_are_pairs_1 : IS := .for_ (.nm 1) (.seq (.var 0)) b_law_are_pairs_0
def c_law_are_pairs_2 : IE := .comp (.nm 1) (.seq (.var 0)) (.o2 .idx (.var 1) (.int 0))
def f_law_are_pairs : FDef := { n := 2, arity := 1, body :=
  (.cons (.if_ (.or_ (.o1 .not (.isi (.var 0) .tuple)) (.o2 .eq (.var 0) (.tup .nil))) (.cons (.ret (.bl false)) .nil) .nil) (.cons l_law_are_pairs_1 (.cons (.ret (.o2 .eq (.o1 .lenSet c_law_are_pairs_2) (.o1 .len (.var 0)))) .nil))) }
def f_law_is_heap : FDef := { n := 1, arity := 1, body :=
  (.cons (.if_ (.or_ (.o1 .not (.isi (.var 0) .tuple)) (.or_ (.o2 .ne (.o1 .len (.var 0)) (.int 3)) (.or_ (.o1 .not (.call F.law_is_name (.cons (.o2 .idx (.var 0) (.int 0)) .nil))) (.o1 .not (.isi (.o2 .idx (.var 0) (.int 1)) .str))))) (.cons (.ret (.bl false)) .nil) .nil) (.cons (.if_ (.o2 .eq (.o2 .idx (.var 0) (.int 1)) (.str w_count)) (.cons (.ret (.o2 .is (.o2 .idx (.var 0) (.int 2)) .non)) .nil) .nil) (.cons (.ret (.and_ (.o2 .in_ (.o2 .idx (.var 0) (.int 1)) (.tup (.cons (.str w_sum) (.cons (.str w_least) (.cons (.str w_most) (.cons (.str w_any) (.cons (.str w_every) .nil))))))) (.call F.law_is_name (.cons (.o2 .idx (.var 0) (.int 2)) .nil)))) .nil))) }
def b_law_is_quest_0 : ISs := (.cons (.put 2 (.var 3) (.o2 .add (.int 2) (.o1 .int (.o2 .in_ (.var 3) (.tup (.cons (.str w_join) (.cons (.str w_left) .nil))))))) .nil)
def l_law_is_quest_1 : IS := .for_ (.nm 3) (.seq (.tup (.cons (.str w_join) (.cons (.str w_left) (.cons (.str w_both) (.cons (.str w_minus) .nil)))))) b_law_is_quest_0
def c_law_is_quest_2 : IE := .comp (.nm 7) (.seq (.o2 .idx (.var 5) (.int 2))) (.o2 .idx (.var 7) (.int 1))
def c_law_is_quest_3 : IE := .compIf (.nm 7) (.seq (.var 6)) (.o1 .not (.call F.law_is_name (.cons (.var 7) .nil))) (.var 7)
def f_law_is_quest : FDef := { n := 8, arity := 2, body :=
  (.cons (.if_ (.or_ (.o1 .not (.isi (.var 0) .tuple)) (.or_ (.o2 .lt (.o1 .len (.var 0)) (.int 2)) (.or_ (.o2 .eq (.var 1) (.int 0)) (.o1 .not (.isi (.o2 .idx (.var 0) (.int 0)) .str))))) (.cons (.ret (.bl false)) .nil) .nil) (.cons (.par 4 5 (.o2 .idx (.var 0) (.int 0)) (.o3 .sl (.var 0) (.int 1) .non)) (.cons (.if_ (.o2 .eq (.var 4) (.str w_table)) (.cons (.ret (.and_ (.o2 .eq (.o1 .len (.var 5)) (.int 1)) (.call F.law_is_name (.cons (.o2 .idx (.var 5) (.int 0)) .nil)))) .nil) .nil) (.cons (.mset 2 (.dsp [w_where, w_take, w_add, w_name, w_once, w_first, w_sort, w_group] (.cons (.int 2) (.cons (.int 2) (.cons (.int 3) (.cons (.int 3) (.cons (.int 1) (.cons (.int 2) (.cons (.int 2) (.cons (.int 3) .nil)))))))))) (.cons l_law_is_quest_1 (.pub [2] (.cons (.if_ (.or_ (.o2 .notin (.var 4) (.var 2)) (.or_ (.o2 .ne (.o1 .len (.var 5)) (.o2 .idx (.var 2) (.var 4))) (.o1 .not (.call F.law_is_quest (.cons (.o2 .idx (.var 5) (.int 0)) (.cons (.o2 .sub (.var 1) (.int 1)) .nil)))))) (.cons (.ret (.bl false)) .nil) .nil) (.cons (.if_ (.o2 .in_ (.var 4) (.tup (.cons (.str w_join) (.cons (.str w_left) (.cons (.str w_both) (.cons (.str w_minus) .nil)))))) (.cons (.if_ (.or_ (.o1 .not (.call F.law_is_quest (.cons (.o2 .idx (.var 5) (.int 1)) (.cons (.o2 .sub (.var 1) (.int 1)) .nil)))) (.and_ (.o2 .eq (.o1 .len (.var 5)) (.int 3)) (.o1 .not (.call F.law_are_pairs (.cons (.o2 .idx (.var 5) (.int 2)) .nil))))) (.cons (.ret (.bl false)) .nil) .nil) (.cons (.asg (.nm 6) (.ifE (.o2 .eq (.o1 .len (.var 5)) (.int 3)) c_law_is_quest_2 (.lst .nil))) (.cons (.ret (.and_ (.o2 .eq c_law_is_quest_3 (.lst .nil)) (.o2 .eq (.o1 .lenSet (.var 6)) (.o1 .len (.var 6))))) .nil))) .nil) (.cons (.ret (.call F.law_is_other (.cons (.var 4) (.cons (.var 5) .nil)))) .nil))))))))) }
def c_law_is_other_0 : IE := .compIf (.nm 2) (.seq (.o2 .idx (.var 1) (.int 1))) (.o2 .notin (.o2 .idx (.var 2) (.int 1)) (.tup (.cons (.str w_up) (.cons (.str w_down) .nil)))) (.var 2)
def c_law_is_other_1 : IE := .compIf (.nm 2) (.seq (.o2 .idx (.var 1) (.int 2))) (.o1 .not (.call F.law_is_heap (.cons (.var 2) .nil))) (.var 2)
def f_law_is_other : FDef := { n := 3, arity := 2, body :=
  (.cons (.if_ (.o2 .eq (.var 0) (.str w_where)) (.cons (.ret (.call F.law_is_sum (.cons (.o2 .idx (.var 1) (.int 1)) (.cons (.int 5) .nil)))) .nil) .nil) (.cons (.if_ (.o2 .eq (.var 0) (.str w_take)) (.cons (.ret (.call F.law_are_names (.cons (.o2 .idx (.var 1) (.int 1)) (.cons (.int 1) .nil)))) .nil) .nil) (.cons (.if_ (.o2 .eq (.var 0) (.str w_add)) (.cons (.ret (.and_ (.call F.law_is_name (.cons (.o2 .idx (.var 1) (.int 1)) .nil)) (.call F.law_is_sum (.cons (.o2 .idx (.var 1) (.int 2)) (.cons (.int 5) .nil))))) .nil) .nil) (.cons (.if_ (.o2 .eq (.var 0) (.str w_name)) (.cons (.ret (.and_ (.call F.law_is_name (.cons (.o2 .idx (.var 1) (.int 1)) .nil)) (.call F.law_is_name (.cons (.o2 .idx (.var 1) (.int 2)) .nil)))) .nil) .nil) (.cons (.if_ (.o2 .eq (.var 0) (.str w_first)) (.cons (.ret (.and_ (.isi (.o2 .idx (.var 1) (.int 1)) .int) (.and_ (.o1 .not (.isi (.o2 .idx (.var 1) (.int 1)) .bool)) (.o2 .ge (.o2 .idx (.var 1) (.int 1)) (.int 0))))) .nil) .nil) (.cons (.if_ (.o2 .eq (.var 0) (.str w_sort)) (.cons (.ret (.and_ (.call F.law_are_pairs (.cons (.o2 .idx (.var 1) (.int 1)) .nil)) (.o2 .eq c_law_is_other_0 (.lst .nil)))) .nil) .nil) (.cons (.if_ (.o2 .eq (.var 0) (.str w_group)) (.cons (.if_ (.or_ (.o1 .not (.call F.law_are_names (.cons (.o2 .idx (.var 1) (.int 1)) (.cons (.int 0) .nil)))) (.or_ (.o1 .not (.isi (.o2 .idx (.var 1) (.int 2)) .tuple)) (.o2 .eq (.o2 .idx (.var 1) (.int 2)) (.tup .nil)))) (.cons (.ret (.bl false)) .nil) .nil) (.cons (.ret (.o2 .eq c_law_is_other_1 (.lst .nil))) .nil)) .nil) (.cons (.ret (.bl true)) .nil)))))))) }
def b_law_0 : ISs := (.cons (.asg (.nm 4) (.call F.law_odd (.cons (.var 2) (.cons (.o2 .add (.o2 .add (.call F.law_cell (.cons (.var 0) (.cons (.o2 .add (.int 8) (.o2 .mod (.var 3) (.int 2))) .nil))) (.o2 .mul (.int 17) (.var 3))) (.var 1)) .nil)))) (.cons (.if_ (.or_ (.o2 .notin (.call F.is_quest (.cons (.var 4) .nil)) (.tup (.cons (.bl true) (.cons (.bl false) .nil)))) (.o2 .ne (.call F.is_quest (.cons (.var 4) .nil)) (.call F.law_is_quest (.cons (.var 4) (.cons (.int 6) .nil))))) (.cons (.ret (.bl false)) .nil) .nil) .nil))
def l_law_1 : IS := .for_ (.nm 3) (.rng1 (.int 30)) b_law_0
def b_law_2 : ISs := (.cons (.asg (.nm 2) (.call F.law_any_quest (.cons (.o2 .add (.call F.law_cell (.cons (.var 0) (.cons (.var 1) .nil))) (.o2 .mul (.int 7) (.var 1))) (.cons (.int 6) .nil)))) (.cons (.if_ (.o2 .isnot (.call F.is_quest (.cons (.var 2) .nil)) (.bl true)) (.cons (.ret (.bl false)) .nil) .nil) (.cons l_law_1 .nil)))
def l_law_3 : IS := .for_ (.nm 1) (.rng1 (.int 6)) b_law_2
def f_law : FDef := { n := 5, arity := 1, body :=
  (.cons l_law_3 (.cons (.ret (.bl true)) .nil)) }
def defs : Nat → Option FDef
  | 0 => some f_is_name
  | 1 => some f_is_sort
  | 2 => some f_sort_of
  | 3 => some f_are_unlike
  | 4 => some f_are_tuples
  | 5 => some f_is_sum_in
  | 6 => some f_is_sum
  | 7 => some f_are_names
  | 8 => some f_are_keys
  | 9 => some f_is_heap
  | 10 => some f_are_pairs
  | 11 => some f_are_parts
  | 12 => some f_is_quest_in
  | 13 => some f_is_quest
  | 14 => some f_law_cell
  | 15 => some f_law_mix
  | 16 => some f_law_any_sum
  | 17 => some f_law_any_quest
  | 18 => some f_law_odd
  | 19 => some f_law_is_name
  | 20 => some f_law_is_sum
  | 21 => some f_law_are_names
  | 22 => some f_law_are_pairs
  | 23 => some f_law_is_heap
  | 24 => some f_law_is_quest
  | 25 => some f_law_is_other
  | 26 => some f_law
  | _ => none
theorem d_is_name : defs F.is_name = some f_is_name := rfl
theorem d_is_sort : defs F.is_sort = some f_is_sort := rfl
theorem d_sort_of : defs F.sort_of = some f_sort_of := rfl
theorem d_are_unlike : defs F.are_unlike = some f_are_unlike := rfl
theorem d_are_tuples : defs F.are_tuples = some f_are_tuples := rfl
theorem d_is_sum_in : defs F.is_sum_in = some f_is_sum_in := rfl
theorem d_is_sum : defs F.is_sum = some f_is_sum := rfl
theorem d_are_names : defs F.are_names = some f_are_names := rfl
theorem d_are_keys : defs F.are_keys = some f_are_keys := rfl
theorem d_is_heap : defs F.is_heap = some f_is_heap := rfl
theorem d_are_pairs : defs F.are_pairs = some f_are_pairs := rfl
theorem d_are_parts : defs F.are_parts = some f_are_parts := rfl
theorem d_is_quest_in : defs F.is_quest_in = some f_is_quest_in := rfl
theorem d_is_quest : defs F.is_quest = some f_is_quest := rfl
theorem d_law_cell : defs F.law_cell = some f_law_cell := rfl
theorem d_law_mix : defs F.law_mix = some f_law_mix := rfl
theorem d_law_any_sum : defs F.law_any_sum = some f_law_any_sum := rfl
theorem d_law_any_quest : defs F.law_any_quest = some f_law_any_quest := rfl
theorem d_law_odd : defs F.law_odd = some f_law_odd := rfl
theorem d_law_is_name : defs F.law_is_name = some f_law_is_name := rfl
theorem d_law_is_sum : defs F.law_is_sum = some f_law_is_sum := rfl
theorem d_law_are_names : defs F.law_are_names = some f_law_are_names := rfl
theorem d_law_are_pairs : defs F.law_are_pairs = some f_law_are_pairs := rfl
theorem d_law_is_heap : defs F.law_is_heap = some f_law_is_heap := rfl
theorem d_law_is_quest : defs F.law_is_quest = some f_law_is_quest := rfl
theorem d_law_is_other : defs F.law_is_other = some f_law_is_other := rfl
theorem d_law : defs F.law = some f_law := rfl
theorem u_is_name (n : Nat) (x0 : D) : callF defs (n + 1) F.is_name [x0] = (evalSs (callF defs n) f_is_name.body [some x0, none]).bind Fl.fin := rfl
theorem u_is_sort (n : Nat) (x0 : D) : callF defs (n + 1) F.is_sort [x0] = (evalSs (callF defs n) f_is_sort.body [some x0]).bind Fl.fin := rfl
theorem u_sort_of (n : Nat) (x0 : D) : callF defs (n + 1) F.sort_of [x0] = (evalSs (callF defs n) f_sort_of.body [some x0]).bind Fl.fin := rfl
theorem u_are_unlike (n : Nat) (x0 : D) : callF defs (n + 1) F.are_unlike [x0] = (evalSs (callF defs n) f_are_unlike.body [some x0]).bind Fl.fin := rfl
theorem u_are_tuples (n : Nat) (x0 : D) (x1 : D) : callF defs (n + 1) F.are_tuples [x0, x1] = (evalSs (callF defs n) f_are_tuples.body [some x0, some x1, none]).bind Fl.fin := rfl
theorem u_is_sum_in (n : Nat) (x0 : D) (x1 : D) : callF defs (n + 1) F.is_sum_in [x0, x1] = (evalSs (callF defs n) f_is_sum_in.body [some x0, some x1, none, none, none]).bind Fl.fin := rfl
theorem u_is_sum (n : Nat) (x0 : D) : callF defs (n + 1) F.is_sum [x0] = (evalSs (callF defs n) f_is_sum.body [some x0]).bind Fl.fin := rfl
theorem u_are_names (n : Nat) (x0 : D) (x1 : D) : callF defs (n + 1) F.are_names [x0, x1] = (evalSs (callF defs n) f_are_names.body [some x0, some x1, none]).bind Fl.fin := rfl
theorem u_are_keys (n : Nat) (x0 : D) : callF defs (n + 1) F.are_keys [x0] = (evalSs (callF defs n) f_are_keys.body [some x0, none, none]).bind Fl.fin := rfl
theorem u_is_heap (n : Nat) (x0 : D) : callF defs (n + 1) F.is_heap [x0] = (evalSs (callF defs n) f_is_heap.body [some x0, none, none, none]).bind Fl.fin := rfl
theorem u_are_pairs (n : Nat) (x0 : D) : callF defs (n + 1) F.are_pairs [x0] = (evalSs (callF defs n) f_are_pairs.body [some x0, none, none]).bind Fl.fin := rfl
theorem u_are_parts (n : Nat) (x0 : D) (x1 : D) : callF defs (n + 1) F.are_parts [x0, x1] = (evalSs (callF defs n) f_are_parts.body [some x0, some x1, none]).bind Fl.fin := rfl
theorem u_is_quest_in (n : Nat) (x0 : D) (x1 : D) : callF defs (n + 1) F.is_quest_in [x0, x1] = (evalSs (callF defs n) f_is_quest_in.body [some x0, some x1, none, none, none]).bind Fl.fin := rfl
theorem u_is_quest (n : Nat) (x0 : D) : callF defs (n + 1) F.is_quest [x0] = (evalSs (callF defs n) f_is_quest.body [some x0]).bind Fl.fin := rfl
theorem u_law_cell (n : Nat) (x0 : D) (x1 : D) : callF defs (n + 1) F.law_cell [x0, x1] = (evalSs (callF defs n) f_law_cell.body [some x0, some x1]).bind Fl.fin := rfl
theorem u_law_mix (n : Nat) (x0 : D) (x1 : D) (x2 : D) : callF defs (n + 1) F.law_mix [x0, x1, x2] = (evalSs (callF defs n) f_law_mix.body [some x0, some x1, some x2, none]).bind Fl.fin := rfl
theorem u_law_any_sum (n : Nat) (x0 : D) (x1 : D) : callF defs (n + 1) F.law_any_sum [x0, x1] = (evalSs (callF defs n) f_law_any_sum.body [some x0, some x1, none, none, none, none, none]).bind Fl.fin := rfl
theorem u_law_any_quest (n : Nat) (x0 : D) (x1 : D) : callF defs (n + 1) F.law_any_quest [x0, x1] = (evalSs (callF defs n) f_law_any_quest.body [some x0, some x1, none, none, none, none, none, none]).bind Fl.fin := rfl
theorem u_law_odd (n : Nat) (x0 : D) (x1 : D) : callF defs (n + 1) F.law_odd [x0, x1] = (evalSs (callF defs n) f_law_odd.body [some x0, some x1, none, none]).bind Fl.fin := rfl
theorem u_law_is_name (n : Nat) (x0 : D) : callF defs (n + 1) F.law_is_name [x0] = (evalSs (callF defs n) f_law_is_name.body [some x0, none]).bind Fl.fin := rfl
theorem u_law_is_sum (n : Nat) (x0 : D) (x1 : D) : callF defs (n + 1) F.law_is_sum [x0, x1] = (evalSs (callF defs n) f_law_is_sum.body [some x0, some x1, none, none, none, none, none]).bind Fl.fin := rfl
theorem u_law_are_names (n : Nat) (x0 : D) (x1 : D) : callF defs (n + 1) F.law_are_names [x0, x1] = (evalSs (callF defs n) f_law_are_names.body [some x0, some x1, none]).bind Fl.fin := rfl
theorem u_law_are_pairs (n : Nat) (x0 : D) : callF defs (n + 1) F.law_are_pairs [x0] = (evalSs (callF defs n) f_law_are_pairs.body [some x0, none]).bind Fl.fin := rfl
theorem u_law_is_heap (n : Nat) (x0 : D) : callF defs (n + 1) F.law_is_heap [x0] = (evalSs (callF defs n) f_law_is_heap.body [some x0]).bind Fl.fin := rfl
theorem u_law_is_quest (n : Nat) (x0 : D) (x1 : D) : callF defs (n + 1) F.law_is_quest [x0, x1] = (evalSs (callF defs n) f_law_is_quest.body [some x0, some x1, none, none, none, none, none, none]).bind Fl.fin := rfl
theorem u_law_is_other (n : Nat) (x0 : D) (x1 : D) : callF defs (n + 1) F.law_is_other [x0, x1] = (evalSs (callF defs n) f_law_is_other.body [some x0, some x1, none]).bind Fl.fin := rfl
theorem u_law (n : Nat) (x0 : D) : callF defs (n + 1) F.law [x0] = (evalSs (callF defs n) f_law.body [some x0, none, none, none, none]).bind Fl.fin := rfl
def L : List PF := [
  ⟨0, 3, Str.ofString "is_name", ((["thing", "sign"] : List String).map Str.ofString), ((["thing"] : List String).map Str.ofString), []⟩,
  ⟨1, 4, Str.ofString "is_sort", ((["thing"] : List String).map Str.ofString), ((["thing"] : List String).map Str.ofString), []⟩,
  ⟨2, 5, Str.ofString "sort_of", ((["value"] : List String).map Str.ofString), ((["value"] : List String).map Str.ofString), []⟩,
  ⟨3, 6, Str.ofString "are_unlike", ((["some"] : List String).map Str.ofString), ((["some"] : List String).map Str.ofString), []⟩,
  ⟨4, 7, Str.ofString "are_tuples", ((["thing", "size", "one"] : List String).map Str.ofString), ((["thing", "size"] : List String).map Str.ofString), []⟩,
  ⟨5, 11, Str.ofString "is_sum_in", ((["thing", "deep", "word", "many", "part"] : List String).map Str.ofString), ((["thing", "deep"] : List String).map Str.ofString), []⟩,
  ⟨6, 12, Str.ofString "is_sum", ((["thing"] : List String).map Str.ofString), ((["thing"] : List String).map Str.ofString), []⟩,
  ⟨7, 15, Str.ofString "are_names", ((["thing", "least", "name"] : List String).map Str.ofString), ((["thing", "least"] : List String).map Str.ofString), []⟩,
  ⟨8, 16, Str.ofString "are_keys", ((["thing", "name", "way"] : List String).map Str.ofString), ((["thing"] : List String).map Str.ofString), []⟩,
  ⟨9, 17, Str.ofString "is_heap", ((["thing", "name", "word", "column"] : List String).map Str.ofString), ((["thing"] : List String).map Str.ofString), []⟩,
  ⟨10, 18, Str.ofString "are_pairs", ((["thing", "k", "pair"] : List String).map Str.ofString), ((["thing"] : List String).map Str.ofString), []⟩,
  ⟨11, 19, Str.ofString "are_parts", ((["word", "parts", "heap"] : List String).map Str.ofString), ((["word", "parts"] : List String).map Str.ofString), []⟩,
  ⟨12, 20, Str.ofString "is_quest_in", ((["thing", "deep", "word", "many", "part"] : List String).map Str.ofString), ((["thing", "deep"] : List String).map Str.ofString), []⟩,
  ⟨13, 21, Str.ofString "is_quest", ((["thing"] : List String).map Str.ofString), ((["thing"] : List String).map Str.ofString), []⟩,
  ⟨14, 23, Str.ofString "_law_cell", ((["script", "k"] : List String).map Str.ofString), ((["script", "k"] : List String).map Str.ofString), []⟩,
  ⟨15, 24, Str.ofString "_law_mix", ((["cell", "prime", "many", "blend"] : List String).map Str.ofString), ((["cell", "prime", "many"] : List String).map Str.ofString), []⟩,
  ⟨16, 25, Str.ofString "_law_any_sum", ((["cell", "left", "way", "words", "some", "one", "other"] : List String).map Str.ofString), ((["cell", "left"] : List String).map Str.ofString), []⟩,
  ⟨17, 26, Str.ofString "_law_any_quest", ((["cell", "left", "way", "q", "heaps", "some", "r", "pairs"] : List String).map Str.ofString), ((["cell", "left"] : List String).map Str.ofString), []⟩,
  ⟨18, 27, Str.ofString "_law_odd", ((["thing", "cell", "some", "at"] : List String).map Str.ofString), ((["thing", "cell"] : List String).map Str.ofString), []⟩,
  ⟨19, 28, Str.ofString "_law_is_name", ((["thing", "sign"] : List String).map Str.ofString), ((["thing"] : List String).map Str.ofString), []⟩,
  ⟨20, 29, Str.ofString "_law_is_sum", ((["thing", "left", "many", "two", "word", "rest", "part"] : List String).map Str.ofString), ((["thing", "left"] : List String).map Str.ofString), [2]⟩,
  ⟨21, 30, Str.ofString "_law_are_names", ((["thing", "least", "one"] : List String).map Str.ofString), ((["thing", "least"] : List String).map Str.ofString), []⟩,
  ⟨22, 31, Str.ofString "_law_are_pairs", ((["thing", "one"] : List String).map Str.ofString), ((["thing"] : List String).map Str.ofString), []⟩,
  ⟨23, 32, Str.ofString "_law_is_heap", ((["one"] : List String).map Str.ofString), ((["one"] : List String).map Str.ofString), []⟩,
  ⟨24, 33, Str.ofString "_law_is_quest", ((["thing", "left", "many", "two", "word", "rest", "seconds", "one"] : List String).map Str.ofString), ((["thing", "left"] : List String).map Str.ofString), [2]⟩,
  ⟨25, 34, Str.ofString "_law_is_other", ((["word", "rest", "one"] : List String).map Str.ofString), ((["word", "rest"] : List String).map Str.ofString), []⟩,
  ⟨26, 35, Str.ofString "law", ((["script", "k", "one", "j", "thing"] : List String).map Str.ofString), ((["script"] : List String).map Str.ofString), []⟩]
def top (i : Nat) : Stmt := PySem.Challenge.pw_tablequest_k41_odd_questions.main.body.getD i (.Pass ⟨0, 0, 0, 0⟩)
def fnm (f : Nat) : Option (Str × Nat) := (L.find? fun p => p.f == f).map fun p => (p.x, p.ps.length)
theorem all_in (f : Nat) (x : Str) (ar : Nat) (h : fnm f = some (x, ar)) : ∃ p ∈ L, p.f = f := by
  unfold fnm at h
  cases q : L.find? fun p => p.f == f with
  | none => rw [q] at h; cases h
  | some p => exact ⟨p, List.mem_of_find?_eq_some q, by simpa using List.find?_some q⟩
theorem checked : (L.all fun p => chkF fnm GL defs p (top p.i)) = true := by decide +kernel
def loose : List PySem.Str := ((["SORTS", "LETTERS", "TWO", "ONE", "WHOLE_WORDS", "is_name", "is_sort", "sort_of", "are_unlike", "are_tuples", "is_sum_in", "is_sum", "are_names", "are_keys", "is_heap", "are_pairs", "are_parts", "is_quest_in", "is_quest", "_law_cell", "_law_mix", "_law_any_sum", "_law_any_quest", "_law_odd", "_law_is_name", "_law_is_sum", "_law_are_names", "_law_are_pairs", "_law_is_heap", "_law_is_quest", "_law_is_other"] : List String).map Str.ofString)
abbrev R : PySem.W.OpenRow := PySem.W.OpenLaw.row PySem.Challenge.rw_tablequest_k41_odd_questions
abbrev hk : PySem.W.Hook := hookT 4 (faOf L) (L.map (defD top)) GL
def ob (s : PySem.W.SharedT) : He.AlD × Bool := obsT 4 (faOf L) (L.map (defD top)) GL (HandSHeadRun.getT s)
theorem ob_eq (s : PySem.W.SharedT) : ob s = hk.obs s.abs := obsT_eq (HandSHeadRun.getT_eq s)
theorem run (w : World) : HandSHeadRun.RunEq R (PySem.W.view R.prog [35]) hk ob 2500 loose w := by
  intro os
  kernel_rfl
/-! steps of a walk -/
section
variable {ρ : Nat → List D → Res D}
theorem fin_of {ss : ISs} {env : En} {r : D} (h : evalSs ρ ss env = .ok (.ret r)) : (evalSs ρ ss env).bind Fl.fin = .ok r := by rw [h]; rfl
theorem seq_asg {i : Nat} {e : IE} {ss : ISs} {env : En} {d : D} (h : evalE ρ e env = .ok d) : evalSs ρ (.cons (.asg (.nm i) e) ss) env = evalSs ρ ss (env.set i (some d)) := by
  simp only [evalSs, evalS, h, bind_ok, put_nm, Fl.go_next]
theorem seq_if_f {c : IE} {a b ss : ISs} {env : En} {d : D} (h : evalE ρ c env = .ok d) (t : truth d = .ok false) (hb : b = .nil) : evalSs ρ (.cons (.if_ c a b) ss) env = evalSs ρ ss env := by
  subst hb
  simp only [evalSs, evalS, h, bind_ok, t, if_false, Bool.false_eq_true, Fl.go_next]
theorem seq_if_t {c : IE} {a b ss : ISs} {env : En} {d x : D} (h : evalE ρ c env = .ok d) (t : truth d = .ok true) (r : evalSs ρ a env = .ok (.ret x)) : evalSs ρ (.cons (.if_ c a b) ss) env = .ok (.ret x) := by
  simp only [evalSs, evalS, h, bind_ok, t, if_true, r, Fl.go_ret]
theorem seq_if_n {c : IE} {a b ss : ISs} {env e : En} {d : D} (h : evalE ρ c env = .ok d) (t : truth d = .ok true) (r : evalSs ρ a env = .ok (.next e)) : evalSs ρ (.cons (.if_ c a b) ss) env = evalSs ρ ss e := by
  simp only [evalSs, evalS, h, bind_ok, t, if_true, r, Fl.go_next]
theorem seq_if_e {c : IE} {a b ss : ISs} {env e : En} {d : D} (h : evalE ρ c env = .ok d) (t : truth d = .ok false) (r : evalSs ρ b env = .ok (.next e)) : evalSs ρ (.cons (.if_ c a b) ss) env = evalSs ρ ss e := by
  simp only [evalSs, evalS, h, bind_ok, t, if_false, Bool.false_eq_true, r, Fl.go_next]
theorem seq_if_er {c : IE} {a b ss : ISs} {env : En} {d x : D} (h : evalE ρ c env = .ok d) (t : truth d = .ok false) (r : evalSs ρ b env = .ok (.ret x)) : evalSs ρ (.cons (.if_ c a b) ss) env = .ok (.ret x) := by
  simp only [evalSs, evalS, h, bind_ok, t, if_false, Bool.false_eq_true, r, Fl.go_ret]
theorem seq_ret {e : IE} {ss : ISs} {env : En} {d : D} (h : evalE ρ e env = .ok d) : evalSs ρ (.cons (.ret e) ss) env = .ok (.ret d) := by
  simp only [evalSs, evalS, h, bind_ok, Fl.go_ret]
theorem seq_for {t : Tg} {it : IT} {body ss : ISs} {env e : En} {ds : List D} (hi : evalIT ρ it env = .ok ds) (h : forD (fun d e => (t.put d e).bind fun e' => evalSs ρ body e') ds env = .ok (.next e)) : evalSs ρ (.cons (.for_ t it body) ss) env = evalSs ρ ss e := by
  simp only [evalSs, evalS, hi, bind_ok, h, Fl.go_next]
theorem seq_for_ret {t : Tg} {it : IT} {body ss : ISs} {env : En} {ds : List D} {x : D} (hi : evalIT ρ it env = .ok ds) (h : forD (fun d e => (t.put d e).bind fun e' => evalSs ρ body e') ds env = .ok (.ret x)) : evalSs ρ (.cons (.for_ t it body) ss) env = .ok (.ret x) := by
  simp only [evalSs, evalS, hi, bind_ok, h, Fl.go_ret]
theorem it_rng2 {a b : IE} {env : En} {i j : Int} {ds : List D} (ha : evalE ρ a env = .ok (.int i)) (hb : evalE ρ b env = .ok (.int j)) (h : rng2D (.int i) (.int j) = .ok ds) : evalIT ρ (.rng2 a b) env = .ok ds := by
  simp only [evalIT, ha, hb, bind_ok, h]
theorem it_rng1 {a : IE} {env : En} {i : Int} {ds : List D} (ha : evalE ρ a env = .ok (.int i)) (h : rng1D (.int i) = .ok ds) : evalIT ρ (.rng1 a) env = .ok ds := by
  simp only [evalIT, ha, bind_ok, h]
end
/-! texts in tuples of texts; plain rules -/
theorem eqv_str (y x : Str) : PyData.eqv (.str y) (.str x) = (y == x) := by simp [PyData.eqv]
def inWords (ws : List Str) : D → Bool
  | .str x => decide (x ∈ ws)
  | _ => false
theorem words_flat : ∀ ws : List Str, noDicts (ws.map PyData.str) = true ∧ PyData.depthAll (ws.map PyData.str) = 0
  | [] => ⟨by simp [noDicts], by simp [PyData.depthAll]⟩
  | w :: ws => by
    obtain ⟨h1, h2⟩ := words_flat ws
    refine ⟨by simp [noDicts, noDict, h1], ?_⟩
    simp only [List.map_cons, PyData.depthAll, PyData.depth, h2]; rfl
theorem words_any (ws : List Str) (d : D) (h : noDict d = true) : ((ws.map PyData.str).any fun z => PyData.eqv z d) = inWords ws d := by
  induction ws with
  | nil => cases d <;> simp [inWords]
  | cons w ws ih =>
    rw [List.map_cons, List.any_cons, ih]
    cases d with
    | str x =>
      rw [eqv_str]
      show _ = decide (x ∈ w :: ws)
      rw [Bool.eq_iff_iff, Bool.or_eq_true, beq_iff_eq, decide_eq_true_iff, List.mem_cons, eq_comm (a := x)]
      show w = x ∨ decide (x ∈ ws) = true ↔ _
      rw [decide_eq_true_iff]
    | dict _ => simp [noDict] at h
    | _ => simp [inWords, PyData.eqv]
theorem inOk_words (d : D) (ws : List Str) (h : noDict d = true) : inOk d (ws.map PyData.str) = true := by
  obtain ⟨h1, h2⟩ := words_flat ws
  unfold inOk
  rw [h, h1, h2]
  simp
theorem in_words (d : D) (ws : List Str) (h : noDict d = true) : op2 .in_ d (.tuple (ws.map PyData.str)) = .ok (.bool (inWords ws d)) := by
  rw [o2_in (inOk_words d ws h), words_any ws d h]
theorem notin_words (d : D) (ws : List Str) (h : noDict d = true) : op2 .notin d (.tuple (ws.map PyData.str)) = .ok (.bool (!inWords ws d)) := by
  rw [o2_notin (inOk_words d ws h), words_any ws d h]
theorem in_ws (x : Str) (ws : List Str) : op2 .in_ (.str x) (.tuple (ws.map PyData.str)) = .ok (.bool (decide (x ∈ ws))) := in_words (.str x) ws (by simp [noDict])
theorem o2_ne_i (i j : Int) : op2 .ne (.int i) (.int j) = .ok (.bool (!(i == j))) := by
  rw [o2_ne (eqOk_l (by simp [PyData.depth]) (by simp [noDict]) (by simp [noDict]))]; simp [PyData.eqv]
theorem strs_str (ys : List Str) : strsD (ys.map PyData.str) = some ys := by
  induction ys with
  | nil => rfl
  | cons y ys ih => simp only [List.map_cons, strsD, ih, Option.map_some]
theorem noDicts_of : ∀ {ds : List D}, (∀ d ∈ ds, noDict d = true) → noDicts ds = true
  | [], _ => by simp [noDicts]
  | d :: ds, h => by simp only [noDicts, h d (by simp), noDicts_of fun x hx => h x (List.mem_cons_of_mem _ hx), Bool.and_self]
theorem filter_empty (p : D → Bool) : ∀ ds : List D, (ds.filter fun d => !p d).isEmpty = ds.all p
  | [] => rfl
  | d :: ds => by
    rw [List.filter_cons, List.all_cons]
    cases h : p d with
    | true => simpa using filter_empty p ds
    | false => rfl
def mix (c p m : Int) : Int := (c * 48271 % p) * (c * 48271 % p + 7) % p % m
theorem mix_range (c p : Int) {m : Int} (hm : 0 < m) : 0 ≤ mix c p m ∧ mix c p m < m := ⟨Int.emod_nonneg _ (by omega), Int.emod_lt_of_pos _ hm⟩
theorem mix_eq (n : Nat) (c p m : Int) (hp : 0 < p) (hp2 : p ≤ 10000) (hm : 0 < m) : callF defs (n + 1) F.law_mix [.int c, .int p, .int m] = .ok (.int (mix c p m)) := by
  have h1 : 0 ≤ c * 48271 % p := Int.emod_nonneg _ (by omega)
  have h2 : c * 48271 % p < p := Int.emod_lt_of_pos _ hp
  have e1 : mulOk c 48271 = true := mulOk_r (by omega) (by omega)
  have e2 : mulOk (c * 48271 % p) (c * 48271 % p + 7) = true := mulOk_l (by omega) (by omega)
  rw [call_of d_law_mix]
  simp [f_law_mix, runF, evalSs, evalS, evalE, o2_mul e1, o2_mod hp, o2_mul e2, o2_mod hm, mix]
def cellOf (ns : List Int) (k : Int) : Int := if k < ns.length then ns.getD k.toNat 0 else 0
theorem cell_eq (n : Nat) (ns : List Int) (k : Int) (hk : 0 ≤ k) : callF defs (n + 1) F.law_cell [scrD (ns.map PyData.int), .int k] = .ok (.int (cellOf ns k)) := by
  unfold cellOf
  rw [call_of d_law_cell]
  by_cases h : k < ns.length
  · have hl : k.toNat < ns.length := by omega
    have e : (ns.map PyData.int)[k.toNat]? = some (PyData.int (ns.getD k.toNat 0)) := by
      rw [List.getElem?_map, List.getElem?_eq_getElem hl, List.getD_eq_getElem?_getD, List.getElem?_eq_getElem hl]; rfl
    simp [f_law_cell, runF, evalSs, evalS, evalE, h, o2_idx_scr (at_nat hk e)]
  · simp [f_law_cell, runF, evalSs, evalS, evalE, h]
/-- the three sorts -/
def sorts3 : List Str := [w_whole, w_text, w_truth]
/-! sorts and values -/
def sortS : D → Option Str
  | .bool _ => some w_truth
  | .int _ => some w_whole
  | .str _ => some w_text
  | _ => none
def optS : Option Str → D
  | some s => .str s
  | none => .none
/-! names, sorts, kinds, headings: what the program tells -/
def letter (c : Nat) : Bool := decide (c ∈ w_abcdefghijklmnopqrstuvwxyz.cps.toList)
def isName : D → Bool
  | .str x => decide (1 ≤ x.length) && decide (x.length ≤ 6) && x.cps.toList.all letter
  | _ => false
def signIn (z : Str) : D → Bool
  | .str y => decide (y.cps.getD 0 0 ∈ z.cps.toList)
  | _ => false
def signsOf (x : Str) : List D := x.cps.toList.map fun c => (PyData.str ⟨#[c]⟩ : D)
theorem items_str (x : Str) : itemsOf (.str x) = .ok (signsOf x) := rfl
theorem is_name_eq (n : Nat) (d : D) (h : noDict d = true) : callF defs (n + 1) F.is_name [d] = .ok (.bool (isName d)) := by
  rw [u_is_name]
  cases d with
  | str x =>
    have hc : evalE (callF defs n) c_is_name_0 [some (.str x), none] = .ok (.list ((signsOf x).map fun d => .bool (signIn w_abcdefghijklmnopqrstuvwxyz d))) := by
      unfold c_is_name_0
      refine comp_nm (by simp only [evalSs, evalS, evalE, evalEs, evalIT, Res.bind_ok, Res.bind_bad, Res.bind_exc, Res.tame_ok, Fl.go_next, Fl.go_ret, Fl.fin_next, Fl.fin_ret, slot_some, List.getElem?_cons_zero, List.getElem?_cons_succ, List.set_cons_zero, List.set_cons_succ, put_nm, put_tu, puts_nil, puts_cons, chainK_t, chainK_f, truth_bool, truth_none, truth_int, truth_list, truth_tuple, truth_str, o2_add_i, o2_sub_i, o2_lt_i, o2_le_i, o2_gt_i, o2_ge_i, o2_is_n, o2_is_b, o2_isnot_n, o2_isnot_b, o2_eq_i, o2_eq_s, o2_eq_ns, o2_eq_b, o2_ne_b, o2_idx_t0, o2_idx_t1, o1_len_scr, o1_len_t, o1_len_l, o1_len_s, o1_not_b, o1_tuple_l, o1_list_t, o1_list_l, o1_rev_t, o1_neg_i, o1_int_b, isi_s, isi_i, isi_b, isi_n, isi_t, isi_l, isTy, isNone_n, isNone_b, isNone_i, isNone_s, isNone_t, isNone_l, isBool_b, Bool.not_true, Bool.not_false, eq_self, if_true, if_false, Bool.false_eq_true, reduceIte, beq_self_eq_true, items_str]) fun d hd => ?_
      obtain ⟨c, _, rfl⟩ := List.mem_map.mp hd
      simp only [evalSs, evalS, evalE, evalEs, evalIT, Res.bind_ok, Res.bind_bad, Res.bind_exc, Res.tame_ok, Fl.go_next, Fl.go_ret, Fl.fin_next, Fl.fin_ret, slot_some, List.getElem?_cons_zero, List.getElem?_cons_succ, List.set_cons_zero, List.set_cons_succ, put_nm, put_tu, puts_nil, puts_cons, chainK_t, chainK_f, truth_bool, truth_none, truth_int, truth_list, truth_tuple, truth_str, o2_add_i, o2_sub_i, o2_lt_i, o2_le_i, o2_gt_i, o2_ge_i, o2_is_n, o2_is_b, o2_isnot_n, o2_isnot_b, o2_eq_i, o2_eq_s, o2_eq_ns, o2_eq_b, o2_ne_b, o2_idx_t0, o2_idx_t1, o1_len_scr, o1_len_t, o1_len_l, o1_len_s, o1_not_b, o1_tuple_l, o1_list_t, o1_list_l, o1_rev_t, o1_neg_i, o1_int_b, isi_s, isi_i, isi_b, isi_n, isi_t, isi_l, isTy, isNone_n, isNone_b, isNone_i, isNone_s, isNone_t, isNone_l, isBool_b, Bool.not_true, Bool.not_false, eq_self, if_true, if_false, Bool.false_eq_true, reduceIte, beq_self_eq_true, g_LETTERS, o2_in_sign]
      rfl
    have ha : op1 .all (.list ((signsOf x).map fun d => .bool (signIn w_abcdefghijklmnopqrstuvwxyz d))) = .ok (.bool (x.cps.toList.all letter)) := by
      rw [o1_all]
      unfold signsOf
      rw [List.all_map]; rfl
    by_cases h1 : (1 : Int) ≤ x.length
    · by_cases h2 : (x.length : Int) ≤ 6
      · have e1 : 1 ≤ x.length := by omega
        have e2 : x.length ≤ 6 := by omega
        simp only [evalSs, evalS, evalE, evalEs, evalIT, Res.bind_ok, Res.bind_bad, Res.bind_exc, Res.tame_ok, Fl.go_next, Fl.go_ret, Fl.fin_next, Fl.fin_ret, slot_some, List.getElem?_cons_zero, List.getElem?_cons_succ, List.set_cons_zero, List.set_cons_succ, put_nm, put_tu, puts_nil, puts_cons, chainK_t, chainK_f, truth_bool, truth_none, truth_int, truth_list, truth_tuple, truth_str, o2_add_i, o2_sub_i, o2_lt_i, o2_le_i, o2_gt_i, o2_ge_i, o2_is_n, o2_is_b, o2_isnot_n, o2_isnot_b, o2_eq_i, o2_eq_s, o2_eq_ns, o2_eq_b, o2_ne_b, o2_idx_t0, o2_idx_t1, o1_len_scr, o1_len_t, o1_len_l, o1_len_s, o1_not_b, o1_tuple_l, o1_list_t, o1_list_l, o1_rev_t, o1_neg_i, o1_int_b, isi_s, isi_i, isi_b, isi_n, isi_t, isi_l, isTy, isNone_n, isNone_b, isNone_i, isNone_s, isNone_t, isNone_l, isBool_b, Bool.not_true, Bool.not_false, eq_self, if_true, if_false, Bool.false_eq_true, reduceIte, beq_self_eq_true, f_is_name, decide_eq_true h1, decide_eq_true h2, hc, ha, isName, decide_eq_true e1, decide_eq_true e2, Bool.true_and]
      · have e2 : ¬ x.length ≤ 6 := by omega
        simp only [evalSs, evalS, evalE, evalEs, evalIT, Res.bind_ok, Res.bind_bad, Res.bind_exc, Res.tame_ok, Fl.go_next, Fl.go_ret, Fl.fin_next, Fl.fin_ret, slot_some, List.getElem?_cons_zero, List.getElem?_cons_succ, List.set_cons_zero, List.set_cons_succ, put_nm, put_tu, puts_nil, puts_cons, chainK_t, chainK_f, truth_bool, truth_none, truth_int, truth_list, truth_tuple, truth_str, o2_add_i, o2_sub_i, o2_lt_i, o2_le_i, o2_gt_i, o2_ge_i, o2_is_n, o2_is_b, o2_isnot_n, o2_isnot_b, o2_eq_i, o2_eq_s, o2_eq_ns, o2_eq_b, o2_ne_b, o2_idx_t0, o2_idx_t1, o1_len_scr, o1_len_t, o1_len_l, o1_len_s, o1_not_b, o1_tuple_l, o1_list_t, o1_list_l, o1_rev_t, o1_neg_i, o1_int_b, isi_s, isi_i, isi_b, isi_n, isi_t, isi_l, isTy, isNone_n, isNone_b, isNone_i, isNone_s, isNone_t, isNone_l, isBool_b, Bool.not_true, Bool.not_false, eq_self, if_true, if_false, Bool.false_eq_true, reduceIte, beq_self_eq_true, f_is_name, decide_eq_true h1, decide_eq_false h2, isName, decide_eq_false e2, Bool.and_false, Bool.false_and]
    · have e1 : ¬ 1 ≤ x.length := by omega
      simp only [evalSs, evalS, evalE, evalEs, evalIT, Res.bind_ok, Res.bind_bad, Res.bind_exc, Res.tame_ok, Fl.go_next, Fl.go_ret, Fl.fin_next, Fl.fin_ret, slot_some, List.getElem?_cons_zero, List.getElem?_cons_succ, List.set_cons_zero, List.set_cons_succ, put_nm, put_tu, puts_nil, puts_cons, chainK_t, chainK_f, truth_bool, truth_none, truth_int, truth_list, truth_tuple, truth_str, o2_add_i, o2_sub_i, o2_lt_i, o2_le_i, o2_gt_i, o2_ge_i, o2_is_n, o2_is_b, o2_isnot_n, o2_isnot_b, o2_eq_i, o2_eq_s, o2_eq_ns, o2_eq_b, o2_ne_b, o2_idx_t0, o2_idx_t1, o1_len_scr, o1_len_t, o1_len_l, o1_len_s, o1_not_b, o1_tuple_l, o1_list_t, o1_list_l, o1_rev_t, o1_neg_i, o1_int_b, isi_s, isi_i, isi_b, isi_n, isi_t, isi_l, isTy, isNone_n, isNone_b, isNone_i, isNone_s, isNone_t, isNone_l, isBool_b, Bool.not_true, Bool.not_false, eq_self, if_true, if_false, Bool.false_eq_true, reduceIte, beq_self_eq_true, f_is_name, decide_eq_false h1, isName, decide_eq_false e1, Bool.false_and]
  | dict _ => simp [noDict] at h
  | _ => simp only [evalSs, evalS, evalE, evalEs, evalIT, Res.bind_ok, Res.bind_bad, Res.bind_exc, Res.tame_ok, Fl.go_next, Fl.go_ret, Fl.fin_next, Fl.fin_ret, slot_some, List.getElem?_cons_zero, List.getElem?_cons_succ, List.set_cons_zero, List.set_cons_succ, put_nm, put_tu, puts_nil, puts_cons, chainK_t, chainK_f, truth_bool, truth_none, truth_int, truth_list, truth_tuple, truth_str, o2_add_i, o2_sub_i, o2_lt_i, o2_le_i, o2_gt_i, o2_ge_i, o2_is_n, o2_is_b, o2_isnot_n, o2_isnot_b, o2_eq_i, o2_eq_s, o2_eq_ns, o2_eq_b, o2_ne_b, o2_idx_t0, o2_idx_t1, o1_len_scr, o1_len_t, o1_len_l, o1_len_s, o1_not_b, o1_tuple_l, o1_list_t, o1_list_l, o1_rev_t, o1_neg_i, o1_int_b, isi_s, isi_i, isi_b, isi_n, isi_t, isi_l, isTy, isNone_n, isNone_b, isNone_i, isNone_s, isNone_t, isNone_l, isBool_b, Bool.not_true, Bool.not_false, eq_self, if_true, if_false, Bool.false_eq_true, reduceIte, beq_self_eq_true, f_is_name, isName]
def isSort : D → Bool
  | .str x => decide (x ∈ sorts3)
  | _ => false
theorem sorts_any (x : Str) : ([PyData.str w_whole, .str w_text, .str w_truth].any fun z => PyData.eqv z (.str x)) = decide (x ∈ sorts3) := by
  have e : ∀ y : Str, PyData.eqv (.str y) (.str x) = (y == x) := fun y => by simp [PyData.eqv]
  have hm : x ∈ sorts3 ↔ x = w_whole ∨ x = w_text ∨ x = w_truth := by
    unfold sorts3
    rw [List.mem_cons, List.mem_cons, List.mem_singleton]
  rw [List.any_cons, List.any_cons, List.any_cons, List.any_nil, e, e, e, Bool.or_false]
  rw [Bool.eq_iff_iff, decide_eq_true_iff, hm, Bool.or_eq_true, Bool.or_eq_true, beq_iff_eq, beq_iff_eq, beq_iff_eq, eq_comm (a := x), eq_comm (a := x), eq_comm (a := x)]
theorem inOk_flat {a : D} {ds : List D} (ha : noDict a = true) (hd : noDicts ds = true) (h : PyData.depthAll ds ≤ 60) : inOk a ds = true := by
  unfold inOk
  rw [ha, hd]
  exact decide_eq_true (by omega)
theorem sorts_flat : noDicts [PyData.str w_whole, .str w_text, .str w_truth] = true ∧ PyData.depthAll [PyData.str w_whole, .str w_text, .str w_truth] ≤ 60 := ⟨by simp [noDicts, noDict], by simp [PyData.depthAll, PyData.depth]⟩
theorem is_sort_eq (n : Nat) (d : D) (h : noDict d = true) : callF defs (n + 1) F.is_sort [d] = .ok (.bool (isSort d)) := by
  rw [u_is_sort]
  cases d with
  | str x =>
    have := o2_in (a := .str x) (inOk_flat (by simp [noDict]) sorts_flat.1 sorts_flat.2)
    simp only [evalSs, evalS, evalE, evalEs, evalIT, Res.bind_ok, Res.bind_bad, Res.bind_exc, Res.tame_ok, Fl.go_next, Fl.go_ret, Fl.fin_next, Fl.fin_ret, slot_some, List.getElem?_cons_zero, List.getElem?_cons_succ, List.set_cons_zero, List.set_cons_succ, put_nm, put_tu, puts_nil, puts_cons, chainK_t, chainK_f, truth_bool, truth_none, truth_int, truth_list, truth_tuple, truth_str, o2_add_i, o2_sub_i, o2_lt_i, o2_le_i, o2_gt_i, o2_ge_i, o2_is_n, o2_is_b, o2_isnot_n, o2_isnot_b, o2_eq_i, o2_eq_s, o2_eq_ns, o2_eq_b, o2_ne_b, o2_idx_t0, o2_idx_t1, o1_len_scr, o1_len_t, o1_len_l, o1_len_s, o1_not_b, o1_tuple_l, o1_list_t, o1_list_l, o1_rev_t, o1_neg_i, o1_int_b, isi_s, isi_i, isi_b, isi_n, isi_t, isi_l, isTy, isNone_n, isNone_b, isNone_i, isNone_s, isNone_t, isNone_l, isBool_b, Bool.not_true, Bool.not_false, eq_self, if_true, if_false, Bool.false_eq_true, reduceIte, beq_self_eq_true, f_is_sort, g_SORTS, this, isSort, sorts_any]
  | dict _ => simp [noDict] at h
  | _ => simp only [evalSs, evalS, evalE, evalEs, evalIT, Res.bind_ok, Res.bind_bad, Res.bind_exc, Res.tame_ok, Fl.go_next, Fl.go_ret, Fl.fin_next, Fl.fin_ret, slot_some, List.getElem?_cons_zero, List.getElem?_cons_succ, List.set_cons_zero, List.set_cons_succ, put_nm, put_tu, puts_nil, puts_cons, chainK_t, chainK_f, truth_bool, truth_none, truth_int, truth_list, truth_tuple, truth_str, o2_add_i, o2_sub_i, o2_lt_i, o2_le_i, o2_gt_i, o2_ge_i, o2_is_n, o2_is_b, o2_isnot_n, o2_isnot_b, o2_eq_i, o2_eq_s, o2_eq_ns, o2_eq_b, o2_ne_b, o2_idx_t0, o2_idx_t1, o1_len_scr, o1_len_t, o1_len_l, o1_len_s, o1_not_b, o1_tuple_l, o1_list_t, o1_list_l, o1_rev_t, o1_neg_i, o1_int_b, isi_s, isi_i, isi_b, isi_n, isi_t, isi_l, isTy, isNone_n, isNone_b, isNone_i, isNone_s, isNone_t, isNone_l, isBool_b, Bool.not_true, Bool.not_false, eq_self, if_true, if_false, Bool.false_eq_true, reduceIte, beq_self_eq_true, f_is_sort, isSort]
theorem noDicts_mem : ∀ {ds : List D} {d : D}, noDicts ds = true → d ∈ ds → noDict d = true
  | [], _, _, h => by simp at h
  | x :: xs, d, h, hm => by
    simp only [noDicts, Bool.and_eq_true] at h
    rcases List.mem_cons.mp hm with rfl | hm
    · exact h.1
    · exact noDicts_mem h.2 hm
theorem int_eq (n m : Nat) : ((n : Int) == (m : Int)) = decide (n = m) := by
  by_cases h : n = m
  · subst h; simp
  · rw [decide_eq_false h, beq_eq_false_iff_ne]; omega
theorem nat_beq (n m : Nat) : ((n : Int) == (m : Int)) = (n == m) := by
  rw [int_eq]
  by_cases q : n = m
  · rw [q]; simp
  · rw [decide_eq_false q, beq_eq_false_iff_ne.mpr q]
theorem isName_str {d : D} (h : isName d = true) : ∃ x, d = .str x := by
  cases d <;> first | exact ⟨_, rfl⟩ | cases h
theorem len0 (ds : List D) : (((ds.length : Nat) : Int) == 0) = ds.isEmpty := by
  cases ds with
  | nil => rfl
  | cons _ _ => rw [beq_eq_false_iff_ne.mpr (by rw [List.length_cons]; omega)]; rfl
/-! the law's own walk -/
theorem letter_eq (c : Nat) : letter c = (decide (97 ≤ c) && decide (c ≤ 122)) := by
  unfold letter
  have e : w_abcdefghijklmnopqrstuvwxyz.cps.toList = (List.range 26).map (97 + ·) := by decide +kernel
  rw [e, Bool.eq_iff_iff, Bool.and_eq_true, decide_eq_true_iff, decide_eq_true_iff, decide_eq_true_iff, List.mem_map]
  constructor
  · rintro ⟨a, h, rfl⟩
    have := List.mem_range.mp h
    omega
  · intro h
    exact ⟨c - 97, List.mem_range.mpr (by omega), by omega⟩
theorem one_lt (a b : Nat) : ([a] < [b]) ↔ a < b := by
  constructor
  · intro h
    cases h with
    | rel h => exact h
    | cons h => cases h
  · intro h
    exact .rel h
theorem le_a (c : Nat) : op2 .le (.str w_a) (.str ⟨#[c]⟩) = .ok (.bool (decide (97 ≤ c))) := by
  show Res.ok (PyData.bool (!decide ((⟨#[c]⟩ : Str).cps.toList < w_a.cps.toList))) = _
  have e : decide ((⟨#[c]⟩ : Str).cps.toList < w_a.cps.toList) = decide (c < 97) := decide_eq_decide.mpr (one_lt c 97)
  rw [e]
  congr 2
  by_cases h : c < 97
  · rw [decide_eq_true h, decide_eq_false (by omega)]; rfl
  · rw [decide_eq_false h, decide_eq_true (by omega)]; rfl
theorem le_z (c : Nat) : op2 .le (.str ⟨#[c]⟩) (.str w_z) = .ok (.bool (decide (c ≤ 122))) := by
  show Res.ok (PyData.bool (!decide (w_z.cps.toList < (⟨#[c]⟩ : Str).cps.toList))) = _
  have e : decide (w_z.cps.toList < (⟨#[c]⟩ : Str).cps.toList) = decide (122 < c) := decide_eq_decide.mpr (one_lt 122 c)
  rw [e]
  congr 2
  by_cases h : 122 < c
  · rw [decide_eq_true h, decide_eq_false (by omega)]; rfl
  · rw [decide_eq_false h, decide_eq_true (by omega)]; rfl
def notLetter : D → Bool
  | .str y => !letter (y.cps.getD 0 0)
  | _ => false
theorem eq_nil_l (xs : List D) (h : noDicts xs = true) : op2 .eq (.list xs) (.list []) = .ok (.bool xs.isEmpty) := by
  rw [o2_eq]
  · cases xs <;> simp [PyData.eqv, PyData.eqvAll]
  · unfold eqOk
    have d : PyData.depth (.list []) ≤ 60 := by simp [PyData.depth, PyData.depthAll]
    rw [show noDict (.list xs) = true by simpa [noDict] using h, show noDict (.list []) = true by simp [noDict, noDicts]]
    exact decide_eq_true (by omega)
theorem eq_nil_t (xs : List D) (h : noDicts xs = true) : op2 .eq (.tuple xs) (.tuple []) = .ok (.bool xs.isEmpty) := by
  rw [o2_eq]
  · cases xs <;> simp [PyData.eqv, PyData.eqvAll]
  · unfold eqOk
    have d : PyData.depth (.tuple []) ≤ 60 := by simp [PyData.depth, PyData.depthAll]
    rw [show noDict (.tuple xs) = true by simpa [noDict] using h, show noDict (.tuple []) = true by simp [noDict, noDicts]]
    exact decide_eq_true (by omega)
theorem signs_noDict (x : Str) (p : D → Bool) : noDicts (((signsOf x).filter p).map id) = true := by
  rw [List.map_id]
  have : ∀ l : List D, (∀ d ∈ l, noDict d = true) → noDicts l = true := fun l => by
    induction l with
    | nil => intro _; simp [noDicts]
    | cons a l ih => intro h; simp only [noDicts, h a (by simp), ih fun d hd => h d (List.mem_cons_of_mem _ hd), Bool.true_and]
  refine this _ fun d hd => ?_
  obtain ⟨c, _, rfl⟩ := List.mem_map.mp (List.mem_filter.mp hd).1
  simp [noDict]
theorem noLetter_nil (x : Str) : (((signsOf x).filter notLetter).map id).isEmpty = x.cps.toList.all letter := by
  rw [List.map_id]
  unfold signsOf
  induction x.cps.toList with
  | nil => rfl
  | cons c l ih =>
    rw [List.map_cons, List.filter_cons, List.all_cons]
    have e : notLetter (.str ⟨#[c]⟩) = !letter c := rfl
    rw [e]
    cases letter c with
    | true => simpa using ih
    | false => rfl
theorem law_name_eq (n : Nat) (d : D) (h : noDict d = true) : callF defs (n + 1) F.law_is_name [d] = .ok (.bool (isName d)) := by
  rw [u_law_is_name]
  cases d with
  | str x =>
    have hc : evalE (callF defs n) c_law_is_name_0 [some (.str x), none] = .ok (.list (((signsOf x).filter notLetter).map id)) := by
      unfold c_law_is_name_0
      refine compIf_any (by simp only [evalSs, evalS, evalE, evalEs, evalIT, Res.bind_ok, Res.bind_bad, Res.bind_exc, Res.tame_ok, Fl.go_next, Fl.go_ret, Fl.fin_next, Fl.fin_ret, slot_some, List.getElem?_cons_zero, List.getElem?_cons_succ, List.set_cons_zero, List.set_cons_succ, put_nm, put_tu, puts_nil, puts_cons, chainK_t, chainK_f, truth_bool, truth_none, truth_int, truth_list, truth_tuple, truth_str, o2_add_i, o2_sub_i, o2_lt_i, o2_le_i, o2_gt_i, o2_ge_i, o2_is_n, o2_is_b, o2_isnot_n, o2_isnot_b, o2_eq_i, o2_eq_s, o2_eq_ns, o2_eq_b, o2_ne_b, o2_idx_t0, o2_idx_t1, o1_len_scr, o1_len_t, o1_len_l, o1_len_s, o1_not_b, o1_tuple_l, o1_list_t, o1_list_l, o1_rev_t, o1_neg_i, o1_int_b, isi_s, isi_i, isi_b, isi_n, isi_t, isi_l, isTy, isNone_n, isNone_b, isNone_i, isNone_s, isNone_t, isNone_l, isBool_b, Bool.not_true, Bool.not_false, eq_self, if_true, if_false, Bool.false_eq_true, reduceIte, beq_self_eq_true, items_str]) fun d hd => ?_
      obtain ⟨c, _, rfl⟩ := List.mem_map.mp hd
      refine ⟨_, by simp only [evalSs, evalS, evalE, evalEs, evalIT, Res.bind_ok, Res.bind_bad, Res.bind_exc, Res.tame_ok, Fl.go_next, Fl.go_ret, Fl.fin_next, Fl.fin_ret, slot_some, List.getElem?_cons_zero, List.getElem?_cons_succ, List.set_cons_zero, List.set_cons_succ, put_nm, put_tu, puts_nil, puts_cons, chainK_t, chainK_f, truth_bool, truth_none, truth_int, truth_list, truth_tuple, truth_str, o2_add_i, o2_sub_i, o2_lt_i, o2_le_i, o2_gt_i, o2_ge_i, o2_is_n, o2_is_b, o2_isnot_n, o2_isnot_b, o2_eq_i, o2_eq_s, o2_eq_ns, o2_eq_b, o2_ne_b, o2_idx_t0, o2_idx_t1, o1_len_scr, o1_len_t, o1_len_l, o1_len_s, o1_not_b, o1_tuple_l, o1_list_t, o1_list_l, o1_rev_t, o1_neg_i, o1_int_b, isi_s, isi_i, isi_b, isi_n, isi_t, isi_l, isTy, isNone_n, isNone_b, isNone_i, isNone_s, isNone_t, isNone_l, isBool_b, Bool.not_true, Bool.not_false, eq_self, if_true, if_false, Bool.false_eq_true, reduceIte, beq_self_eq_true]; rfl, ?_, fun _ => by simp only [evalSs, evalS, evalE, evalEs, evalIT, Res.bind_ok, Res.bind_bad, Res.bind_exc, Res.tame_ok, Fl.go_next, Fl.go_ret, Fl.fin_next, Fl.fin_ret, slot_some, List.getElem?_cons_zero, List.getElem?_cons_succ, List.set_cons_zero, List.set_cons_succ, put_nm, put_tu, puts_nil, puts_cons, chainK_t, chainK_f, truth_bool, truth_none, truth_int, truth_list, truth_tuple, truth_str, o2_add_i, o2_sub_i, o2_lt_i, o2_le_i, o2_gt_i, o2_ge_i, o2_is_n, o2_is_b, o2_isnot_n, o2_isnot_b, o2_eq_i, o2_eq_s, o2_eq_ns, o2_eq_b, o2_ne_b, o2_idx_t0, o2_idx_t1, o1_len_scr, o1_len_t, o1_len_l, o1_len_s, o1_not_b, o1_tuple_l, o1_list_t, o1_list_l, o1_rev_t, o1_neg_i, o1_int_b, isi_s, isi_i, isi_b, isi_n, isi_t, isi_l, isTy, isNone_n, isNone_b, isNone_i, isNone_s, isNone_t, isNone_l, isBool_b, Bool.not_true, Bool.not_false, eq_self, if_true, if_false, Bool.false_eq_true, reduceIte, beq_self_eq_true]; rfl⟩
      have e : notLetter (.str ⟨#[c]⟩) = !letter c := rfl
      rw [e, letter_eq]
      by_cases h1 : 97 ≤ c
      · simp only [evalSs, evalS, evalE, evalEs, evalIT, Res.bind_ok, Res.bind_bad, Res.bind_exc, Res.tame_ok, Fl.go_next, Fl.go_ret, Fl.fin_next, Fl.fin_ret, slot_some, List.getElem?_cons_zero, List.getElem?_cons_succ, List.set_cons_zero, List.set_cons_succ, put_nm, put_tu, puts_nil, puts_cons, chainK_t, chainK_f, truth_bool, truth_none, truth_int, truth_list, truth_tuple, truth_str, o2_add_i, o2_sub_i, o2_lt_i, o2_le_i, o2_gt_i, o2_ge_i, o2_is_n, o2_is_b, o2_isnot_n, o2_isnot_b, o2_eq_i, o2_eq_s, o2_eq_ns, o2_eq_b, o2_ne_b, o2_idx_t0, o2_idx_t1, o1_len_scr, o1_len_t, o1_len_l, o1_len_s, o1_not_b, o1_tuple_l, o1_list_t, o1_list_l, o1_rev_t, o1_neg_i, o1_int_b, isi_s, isi_i, isi_b, isi_n, isi_t, isi_l, isTy, isNone_n, isNone_b, isNone_i, isNone_s, isNone_t, isNone_l, isBool_b, Bool.not_true, Bool.not_false, eq_self, if_true, if_false, Bool.false_eq_true, reduceIte, beq_self_eq_true, le_a, le_z, decide_eq_true h1, Bool.true_and]
      · simp only [evalSs, evalS, evalE, evalEs, evalIT, Res.bind_ok, Res.bind_bad, Res.bind_exc, Res.tame_ok, Fl.go_next, Fl.go_ret, Fl.fin_next, Fl.fin_ret, slot_some, List.getElem?_cons_zero, List.getElem?_cons_succ, List.set_cons_zero, List.set_cons_succ, put_nm, put_tu, puts_nil, puts_cons, chainK_t, chainK_f, truth_bool, truth_none, truth_int, truth_list, truth_tuple, truth_str, o2_add_i, o2_sub_i, o2_lt_i, o2_le_i, o2_gt_i, o2_ge_i, o2_is_n, o2_is_b, o2_isnot_n, o2_isnot_b, o2_eq_i, o2_eq_s, o2_eq_ns, o2_eq_b, o2_ne_b, o2_idx_t0, o2_idx_t1, o1_len_scr, o1_len_t, o1_len_l, o1_len_s, o1_not_b, o1_tuple_l, o1_list_t, o1_list_l, o1_rev_t, o1_neg_i, o1_int_b, isi_s, isi_i, isi_b, isi_n, isi_t, isi_l, isTy, isNone_n, isNone_b, isNone_i, isNone_s, isNone_t, isNone_l, isBool_b, Bool.not_true, Bool.not_false, eq_self, if_true, if_false, Bool.false_eq_true, reduceIte, beq_self_eq_true, le_a, decide_eq_false h1, Bool.false_and]
    have hq := eq_nil_l _ (signs_noDict x notLetter)
    rw [noLetter_nil] at hq
    by_cases h1 : (0 : Int) < x.length
    · by_cases h2 : (x.length : Int) < 7
      · have e1 : 1 ≤ x.length := by omega
        have e2 : x.length ≤ 6 := by omega
        simp only [evalSs, evalS, evalE, evalEs, evalIT, Res.bind_ok, Res.bind_bad, Res.bind_exc, Res.tame_ok, Fl.go_next, Fl.go_ret, Fl.fin_next, Fl.fin_ret, slot_some, List.getElem?_cons_zero, List.getElem?_cons_succ, List.set_cons_zero, List.set_cons_succ, put_nm, put_tu, puts_nil, puts_cons, chainK_t, chainK_f, truth_bool, truth_none, truth_int, truth_list, truth_tuple, truth_str, o2_add_i, o2_sub_i, o2_lt_i, o2_le_i, o2_gt_i, o2_ge_i, o2_is_n, o2_is_b, o2_isnot_n, o2_isnot_b, o2_eq_i, o2_eq_s, o2_eq_ns, o2_eq_b, o2_ne_b, o2_idx_t0, o2_idx_t1, o1_len_scr, o1_len_t, o1_len_l, o1_len_s, o1_not_b, o1_tuple_l, o1_list_t, o1_list_l, o1_rev_t, o1_neg_i, o1_int_b, isi_s, isi_i, isi_b, isi_n, isi_t, isi_l, isTy, isNone_n, isNone_b, isNone_i, isNone_s, isNone_t, isNone_l, isBool_b, Bool.not_true, Bool.not_false, eq_self, if_true, if_false, Bool.false_eq_true, reduceIte, beq_self_eq_true, f_law_is_name, decide_eq_true h1, decide_eq_true h2, hc, hq, isName, decide_eq_true e1, decide_eq_true e2, Bool.true_and]
      · have e2 : ¬ x.length ≤ 6 := by omega
        simp only [evalSs, evalS, evalE, evalEs, evalIT, Res.bind_ok, Res.bind_bad, Res.bind_exc, Res.tame_ok, Fl.go_next, Fl.go_ret, Fl.fin_next, Fl.fin_ret, slot_some, List.getElem?_cons_zero, List.getElem?_cons_succ, List.set_cons_zero, List.set_cons_succ, put_nm, put_tu, puts_nil, puts_cons, chainK_t, chainK_f, truth_bool, truth_none, truth_int, truth_list, truth_tuple, truth_str, o2_add_i, o2_sub_i, o2_lt_i, o2_le_i, o2_gt_i, o2_ge_i, o2_is_n, o2_is_b, o2_isnot_n, o2_isnot_b, o2_eq_i, o2_eq_s, o2_eq_ns, o2_eq_b, o2_ne_b, o2_idx_t0, o2_idx_t1, o1_len_scr, o1_len_t, o1_len_l, o1_len_s, o1_not_b, o1_tuple_l, o1_list_t, o1_list_l, o1_rev_t, o1_neg_i, o1_int_b, isi_s, isi_i, isi_b, isi_n, isi_t, isi_l, isTy, isNone_n, isNone_b, isNone_i, isNone_s, isNone_t, isNone_l, isBool_b, Bool.not_true, Bool.not_false, eq_self, if_true, if_false, Bool.false_eq_true, reduceIte, beq_self_eq_true, f_law_is_name, decide_eq_true h1, decide_eq_false h2, isName, decide_eq_false e2, Bool.and_false, Bool.false_and]
    · have e1 : ¬ 1 ≤ x.length := by omega
      simp only [evalSs, evalS, evalE, evalEs, evalIT, Res.bind_ok, Res.bind_bad, Res.bind_exc, Res.tame_ok, Fl.go_next, Fl.go_ret, Fl.fin_next, Fl.fin_ret, slot_some, List.getElem?_cons_zero, List.getElem?_cons_succ, List.set_cons_zero, List.set_cons_succ, put_nm, put_tu, puts_nil, puts_cons, chainK_t, chainK_f, truth_bool, truth_none, truth_int, truth_list, truth_tuple, truth_str, o2_add_i, o2_sub_i, o2_lt_i, o2_le_i, o2_gt_i, o2_ge_i, o2_is_n, o2_is_b, o2_isnot_n, o2_isnot_b, o2_eq_i, o2_eq_s, o2_eq_ns, o2_eq_b, o2_ne_b, o2_idx_t0, o2_idx_t1, o1_len_scr, o1_len_t, o1_len_l, o1_len_s, o1_not_b, o1_tuple_l, o1_list_t, o1_list_l, o1_rev_t, o1_neg_i, o1_int_b, isi_s, isi_i, isi_b, isi_n, isi_t, isi_l, isTy, isNone_n, isNone_b, isNone_i, isNone_s, isNone_t, isNone_l, isBool_b, Bool.not_true, Bool.not_false, eq_self, if_true, if_false, Bool.false_eq_true, reduceIte, beq_self_eq_true, f_law_is_name, decide_eq_false h1, isName, decide_eq_false e1, Bool.false_and]
  | dict _ => simp [noDict] at h
  | _ => simp only [evalSs, evalS, evalE, evalEs, evalIT, Res.bind_ok, Res.bind_bad, Res.bind_exc, Res.tame_ok, Fl.go_next, Fl.go_ret, Fl.fin_next, Fl.fin_ret, slot_some, List.getElem?_cons_zero, List.getElem?_cons_succ, List.set_cons_zero, List.set_cons_succ, put_nm, put_tu, puts_nil, puts_cons, chainK_t, chainK_f, truth_bool, truth_none, truth_int, truth_list, truth_tuple, truth_str, o2_add_i, o2_sub_i, o2_lt_i, o2_le_i, o2_gt_i, o2_ge_i, o2_is_n, o2_is_b, o2_isnot_n, o2_isnot_b, o2_eq_i, o2_eq_s, o2_eq_ns, o2_eq_b, o2_ne_b, o2_idx_t0, o2_idx_t1, o1_len_scr, o1_len_t, o1_len_l, o1_len_s, o1_not_b, o1_tuple_l, o1_list_t, o1_list_l, o1_rev_t, o1_neg_i, o1_int_b, isi_s, isi_i, isi_b, isi_n, isi_t, isi_l, isTy, isNone_n, isNone_b, isNone_i, isNone_s, isNone_t, isNone_l, isBool_b, Bool.not_true, Bool.not_false, eq_self, if_true, if_false, Bool.false_eq_true, reduceIte, beq_self_eq_true, f_law_is_name, isName]
/-! odd things -/
mutual
def fine (L : Nat) : D → Bool
  | .none | .bool _ | .int _ => true
  | .str x => decide (x.length ≤ L) && x.cps.toList.all (fun c => decide (c < 128))
  | .list xs | .tuple xs => decide (xs.length ≤ L) && fines L xs
  | .dict _ => false
def fines (L : Nat) : List D → Bool
  | [] => true
  | x :: xs => fine L x && fines L xs
end
theorem fines_iff {L : Nat} : ∀ {ds : List D}, fines L ds = true ↔ ∀ d ∈ ds, fine L d = true
  | [] => by simp [fines]
  | x :: xs => by
    simp only [fines, Bool.and_eq_true, List.mem_cons, fines_iff (ds := xs)]
    exact ⟨fun h d hd => hd.elim (fun e => e ▸ h.1) (h.2 d), fun h => ⟨h x (.inl rfl), fun d hd => h d (.inr hd)⟩⟩
mutual
theorem fine_noDict {L : Nat} : ∀ (d : D), fine L d = true → noDict d = true
  | .none, _ => by simp [noDict]
  | .bool _, _ => by simp [noDict]
  | .int _, _ => by simp [noDict]
  | .str _, _ => by simp [noDict]
  | .list xs, h => by
    simp only [fine, Bool.and_eq_true] at h
    simp only [noDict, fines_noDict xs h.2]
  | .tuple xs, h => by
    simp only [fine, Bool.and_eq_true] at h
    simp only [noDict, fines_noDict xs h.2]
  | .dict _, h => by simp [fine] at h
theorem fines_noDict {L : Nat} : ∀ (ds : List D), fines L ds = true → noDicts ds = true
  | [], _ => by simp [noDicts]
  | x :: xs, h => by
    simp only [fines, Bool.and_eq_true] at h
    simp only [noDicts, fine_noDict x h.1, fines_noDict xs h.2, Bool.and_self]
theorem fine_mono {L M : Nat} (hLM : L ≤ M) : ∀ (d : D), fine L d = true → fine M d = true
  | .none, _ => by simp [fine]
  | .bool _, _ => by simp [fine]
  | .int _, _ => by simp [fine]
  | .str x, h => by
    simp only [fine, Bool.and_eq_true, decide_eq_true_eq] at h ⊢
    exact ⟨Nat.le_trans h.1 hLM, h.2⟩
  | .list xs, h => by
    simp only [fine, Bool.and_eq_true, decide_eq_true_eq] at h ⊢
    exact ⟨Nat.le_trans h.1 hLM, fines_mono hLM xs h.2⟩
  | .tuple xs, h => by
    simp only [fine, Bool.and_eq_true, decide_eq_true_eq] at h ⊢
    exact ⟨Nat.le_trans h.1 hLM, fines_mono hLM xs h.2⟩
  | .dict _, h => by simp [fine] at h
theorem fines_mono {L M : Nat} (hLM : L ≤ M) : ∀ (ds : List D), fines L ds = true → fines M ds = true
  | [], _ => by simp [fines]
  | x :: xs, h => by
    simp only [fines, Bool.and_eq_true] at h ⊢
    exact ⟨fine_mono hLM x h.1, fines_mono hLM xs h.2⟩
end
theorem fine_tuple {L : Nat} {ds : List D} : fine L (.tuple ds) = true ↔ ds.length ≤ L ∧ ∀ d ∈ ds, fine L d = true := by
  rw [fine, Bool.and_eq_true, decide_eq_true_eq, fines_iff]
theorem fine_list {L : Nat} {ds : List D} : fine L (.list ds) = true ↔ ds.length ≤ L ∧ ∀ d ∈ ds, fine L d = true := by
  rw [fine, Bool.and_eq_true, decide_eq_true_eq, fines_iff]
theorem fine_str {L : Nat} {x : Str} : fine L (.str x) = true ↔ x.length ≤ L ∧ ∀ c ∈ x.cps.toList, c < 128 := by
  rw [fine, Bool.and_eq_true, decide_eq_true_eq, List.all_eq_true]
  simp only [decide_eq_true_eq]
theorem upper_sign : ∀ c : Fin 128, ∃ u : Fin 128, Unicode.upperOf c.val = [u.val] := by decide +kernel
theorem upper_list (x : Str) : (Txt.upper x).cps.toList = x.cps.toList.flatMap Unicode.upperOf := by
  show (placed x fun _ c => Unicode.upperOf c).toList = _
  unfold placed
  have e : (x.cps.mapIdx fun i c => (Unicode.upperOf c).toArray) = x.cps.map fun c => (Unicode.upperOf c).toArray := by
    apply Array.ext <;> simp
  rw [e]
  simp [List.flatMap, Function.comp_def]
theorem upper_fine {L : Nat} {x : Str} (h : fine L (.str x) = true) : fine L (.str (Txt.upper x)) = true := by
  rw [fine_str] at h ⊢
  obtain ⟨h1, h2⟩ := h
  have go : ∀ l : List Nat, (∀ c ∈ l, c < 128) → (l.flatMap Unicode.upperOf).length = l.length ∧ ∀ c ∈ l.flatMap Unicode.upperOf, c < 128 := fun l => by
    induction l with
    | nil => intro _; exact ⟨rfl, fun c h => by simp at h⟩
    | cons a l ih =>
      intro h
      obtain ⟨u, hu⟩ := upper_sign ⟨a, h a (by simp)⟩
      have hu : Unicode.upperOf a = [u.val] := hu
      obtain ⟨i1, i2⟩ := ih fun c hc => h c (List.mem_cons_of_mem _ hc)
      rw [List.flatMap_cons, hu]
      refine ⟨by simp [i1], fun c hc => ?_⟩
      rcases List.mem_append.mp hc with hc | hc
      · rw [List.mem_singleton] at hc; rw [hc]; exact u.isLt
      · exact i2 c hc
  obtain ⟨g1, g2⟩ := go x.cps.toList h2
  rw [← upper_list] at g1 g2
  refine ⟨?_, g2⟩
  have : (Txt.upper x).cps.toList.length = (Txt.upper x).length := Array.length_toList
  have e2 : x.cps.toList.length = x.length := Array.length_toList
  omega
theorem fine_ok {L : Nat} {x : Str} (h : fine L (.str x) = true) : PyData.strOk x = true := by
  rw [fine_str] at h
  unfold PyData.strOk
  rw [Array.all_eq_true_iff_forall_mem]
  intro c hc
  have := h.2 c (Array.mem_def.mp hc)
  exact decide_eq_true (show c < 0x110000 by omega)
theorem cutL_mem {α : Type} {xs : List α} {lo hi : Option Int} {x : α} (h : x ∈ cutL xs lo hi) : x ∈ xs := List.mem_of_mem_drop (List.mem_of_mem_take h)
theorem cut_fine {L : Nat} {ds : List D} {lo hi : Option Int} (h : fine L (.tuple ds) = true) : fine L (.tuple (cutL ds lo hi)) = true := by
  rw [fine_tuple] at h ⊢
  exact ⟨Nat.le_trans (cutL_len _ _ _) h.1, fun d hd => h.2 d (cutL_mem hd)⟩
theorem cutS_fine {L : Nat} {x : Str} {lo hi : Option Int} (h : fine L (.str x) = true) : fine L (.str (cutS x lo hi)) = true := by
  rw [fine_str] at h ⊢
  refine ⟨Nat.le_trans (cutS_length x lo hi) h.1, fun c hc => h.2 c ?_⟩
  unfold cutS at hc
  exact List.mem_of_mem_drop (List.mem_of_mem_take hc)
theorem cat_fine {L M : Nat} {x y : Str} (h : fine L (.str x) = true) (h' : fine M (.str y) = true) : fine (L + M) (.str (x ++ y)) = true := by
  rw [fine_str] at h h' ⊢
  refine ⟨by rw [length_append_str]; omega, fun c hc => ?_⟩
  have e : (x ++ y).cps.toList = x.cps.toList ++ y.cps.toList := by
    show (x.cps ++ y.cps).toList = _
    simp
  rw [e] at hc
  rcases List.mem_append.mp hc with hc | hc
  · exact h.2 c hc
  · exact h'.2 c hc
theorem ne_nil_t (xs : List D) (h : noDicts xs = true) : op2 .ne (.tuple xs) (.tuple []) = .ok (.bool (!xs.isEmpty)) := by
  rw [o2_ne]
  · cases xs <;> simp [PyData.eqv, PyData.eqvAll]
  · unfold eqOk
    have d : PyData.depth (.tuple []) ≤ 60 := by simp [PyData.depth, PyData.depthAll]
    rw [show noDict (.tuple xs) = true by simpa [noDict] using h, show noDict (.tuple []) = true by simp [noDict, noDicts]]
    exact decide_eq_true (by omega)
theorem twice_l (xs : List D) (h : xs.length ≤ 1000) : op2 .mul (.list xs) (.int 2) = .ok (.list (xs ++ xs)) := by
  show (if repOk xs.length 2 then Res.ok (PyData.list (List.replicate (2 : Int).toNat xs).flatten) else .bad) = _
  have ok : repOk xs.length 2 = true := decide_eq_true ⟨by omega, by omega, h⟩
  rw [if_pos ok]
  simp [List.replicate]
theorem twice_s (x : Str) (h : x.length ≤ 1000) : op2 .mul (.str x) (.int 2) = .ok (.str (x ++ x)) := by
  show (if repOk x.length 2 then Res.ok (PyData.str ⟨(List.replicate (2 : Int).toNat x.cps).foldl (· ++ ·) #[]⟩) else .bad) = _
  have ok : repOk x.length 2 = true := decide_eq_true ⟨by omega, by omega, h⟩
  rw [if_pos ok]
  have e : (List.replicate (2 : Int).toNat x.cps).foldl (· ++ ·) #[] = x.cps ++ x.cps := by simp [List.replicate]
  rw [e]; rfl
theorem upper_ok {L : Nat} {x : Str} (hL : L ≤ 1000) (h : fine L (.str x) = true) : op1 .upper (.str x) = .ok (.str (Txt.upper x)) := by
  have hu := upper_fine h
  have h1 := (fine_str.mp h).1
  have h2 := (fine_str.mp hu).1
  show (if (decide (x.length ≤ 5592405) && fits (Txt.upper x).length && PyData.strOk (Txt.upper x)) = true then Res.ok (PyData.str (Txt.upper x)) else .bad) = _
  rw [if_pos]
  rw [Bool.and_eq_true, Bool.and_eq_true]
  exact ⟨⟨decide_eq_true (by omega), fits_of (by omega)⟩, fine_ok hu⟩
def odd16 : List D := [.none, .bool true, .bool false, .int 0, .int 1, .int (-1), .int 2, .int 7, .int 10, .int 1000, .str s_e, .str w_a, .str w_A, .tuple [], .tuple [.str w_a], .list [.int 1]]
theorem odd16_fine : ∀ d ∈ odd16, fine 1 d = true := by
  intro d hd
  have : fines 1 odd16 = true := by decide +kernel
  exact fines_iff.mp this d hd
/-- the last line: one of some -/
theorem odd_pick (n : Nat) (c : Int) (sm : List D) (h0 : 0 < sm.length) (P : D → Prop) (hP : ∀ d ∈ sm, P d) : ∃ r, P r ∧ op2 .idx (.list sm) (.int (mix c 9749 sm.length)) = .ok r ∧ callF defs (n + 1) F.law_mix [.int c, .int 9749, .int sm.length] = .ok (.int (mix c 9749 sm.length)) := by
  obtain ⟨h1, h2⟩ := mix_range c 9749 (m := sm.length) (by omega)
  obtain ⟨r, hr, ha, _⟩ := atI_in (xs := sm) h1 h2
  exact ⟨r, hP r hr, o2_idx_l ha, mix_eq n c 9749 sm.length (by omega) (by omega) (by omega)⟩
theorem twice_mem {P : D → Prop} {xs ys : List D} (h : ∀ d ∈ xs, P d) (h' : ∀ d ∈ ys, P d) : ∀ d ∈ xs ++ (ys ++ ys), P d := fun d hd => by
  rcases List.mem_append.mp hd with hd | hd
  · exact h d hd
  · rcases List.mem_append.mp hd with hd | hd
    · exact h' d hd
    · exact h' d hd
theorem depth_at {ds : List D} {d : D} (h : d ∈ ds) : PyData.depth d + 1 ≤ PyData.depth (.tuple ds) := by
  have : ∀ l : List D, d ∈ l → PyData.depth d ≤ PyData.depthAll l := fun l => by
    induction l with
    | nil => intro h; simp at h
    | cons a l ih =>
      intro h
      rw [PyData.depthAll]
      rcases List.mem_cons.mp h with rfl | h
      · exact Nat.le_max_left _ _
      · exact Nat.le_trans (ih h) (Nat.le_max_right _ _)
  rw [PyData.depth]
  exact Nat.add_le_add_right (this ds h) 1
theorem odd_eq : ∀ (n : Nat) (L : Nat) (d : D) (c : Int), 1 ≤ L → L ≤ 200 → fine L d = true → PyData.depth d ≤ n → ∃ r, callF defs (n + 2) F.law_odd [d, .int c] = .ok r ∧ fine (L + L) r = true
  | n, L, d, c, hL1, hL, hd, hn => by
    have nd := fine_noDict d hd
    have up : ∀ {M : Nat} {x : D}, M ≤ L + L → fine M x = true → fine (L + L) x = true := fun h1 h2 => fine_mono h1 _ h2
    have m1 : callF defs (n + 1) F.law_mix [.int c, .int 9781, .int 5] = .ok (.int (mix c 9781 5)) := mix_eq n c 9781 5 (by omega) (by omega) (by omega)
    have f16 : ∀ d ∈ odd16, fine (L + L) d = true := fun d hd => up (by omega) (odd16_fine d hd)
    have s16 : (PyData.list [.none, .bool true, .bool false, .int 0, .int 1, .int (-1), .int 2, .int 7, .int 10, .int 1000, .str s_e, .str w_a, .str w_A, .tuple [], .tuple [.str w_a], .list [.int 1]] : D) = .list odd16 := rfl
    have l16 : odd16.length = 16 := rfl
    rw [u_law_odd]
    cases d with
    | tuple ds =>
      have nds : noDicts ds = true := by simpa [noDict] using nd
      have hne := ne_nil_t ds nds
      have hdl := (fine_tuple.mp hd)
      by_cases hc : ds.isEmpty = false ∧ 0 < mix c 9781 5
      · obtain ⟨he, hm⟩ := hc
        rw [he] at hne
        have hlen : 0 < ds.length := by cases ds with | nil => cases he | cons _ _ => simp
        have m2 : callF defs (n + 1) F.law_mix [.int c, .int 9769, .int ds.length] = .ok (.int (mix c 9769 ds.length)) := mix_eq n c 9769 ds.length (by omega) (by omega) (by omega)
        obtain ⟨a1, a2⟩ := mix_range c 9769 (m := ds.length) (by omega)
        obtain ⟨x, hx, ha, _⟩ := atI_in (xs := ds) a1 a2
        have hi := o2_idx_t ha
        have hdx := depth_at hx
        cases n with
        | zero => omega
        | succ n =>
          obtain ⟨r, hr, hf⟩ := odd_eq n L x (c + 31 * mix c 9769 ds.length + 7) hL1 hL (hdl.2 x hx) (by omega)
          have e31 : op2 .mul (.int 31) (.int (mix c 9769 ds.length)) = .ok (.int (31 * mix c 9769 ds.length)) := o2_mul (mulOk_l (by omega) (by omega))
          have t1 : op3 .sl (.tuple ds) .none (.int (mix c 9769 ds.length)) = .ok (.tuple (ds.take (mix c 9769 ds.length).toNat)) := by rw [o3_sl_t ds _ _ bound_n (bound_i _), cut_to _ _ a1]
          have t2 : op3 .sl (.tuple ds) (.int (mix c 9769 ds.length + 1)) .none = .ok (.tuple (ds.drop (mix c 9769 ds.length + 1).toNat)) := by rw [o3_sl_t ds _ _ (bound_i _) bound_n, cut_from _ _ (by omega)]
          have hl1 : (ds.take (mix c 9769 ds.length).toNat).length + [r].length ≤ 100000 := by rw [List.length_take]; simp; omega
          have hl2 : (ds.take (mix c 9769 ds.length).toNat ++ [r]).length + (ds.drop (mix c 9769 ds.length + 1).toNat).length ≤ 100000 := by rw [List.length_append, List.length_take, List.length_drop]; simp; omega
          refine ⟨.tuple (ds.take (mix c 9769 ds.length).toNat ++ [r] ++ ds.drop (mix c 9769 ds.length + 1).toNat), ?_, ?_⟩
          · simp only [evalSs, evalS, evalE, evalEs, evalIT, Res.bind_ok, Res.bind_bad, Res.bind_exc, Res.tame_ok, Fl.go_next, Fl.go_ret, Fl.fin_next, Fl.fin_ret, slot_some, List.getElem?_cons_zero, List.getElem?_cons_succ, List.set_cons_zero, List.set_cons_succ, put_nm, put_tu, puts_nil, puts_cons, chainK_t, chainK_f, truth_bool, truth_none, truth_int, truth_list, truth_tuple, truth_str, o2_add_i, o2_sub_i, o2_lt_i, o2_le_i, o2_gt_i, o2_ge_i, o2_is_n, o2_is_b, o2_isnot_n, o2_isnot_b, o2_eq_i, o2_eq_s, o2_eq_ns, o2_eq_b, o2_ne_b, o2_idx_t0, o2_idx_t1, o1_len_scr, o1_len_t, o1_len_l, o1_len_s, o1_not_b, o1_tuple_l, o1_list_t, o1_list_l, o1_rev_t, o1_neg_i, o1_int_b, isi_s, isi_i, isi_b, isi_n, isi_t, isi_l, isTy, isNone_n, isNone_b, isNone_i, isNone_s, isNone_t, isNone_l, isBool_b, Bool.not_true, Bool.not_false, eq_self, if_true, if_false, Bool.false_eq_true, reduceIte, beq_self_eq_true, f_law_odd, hne, m1, decide_eq_true hm, m2, t1, hi, e31, hr, o2_add_t hl1, t2, o2_add_t hl2]
          · rw [fine_tuple]
            refine ⟨?_, fun d hd => ?_⟩
            · rw [List.length_append, List.length_append, List.length_take, List.length_drop]
              simp
              omega
            · rcases List.mem_append.mp hd with hd | hd
              · rcases List.mem_append.mp hd with hd | hd
                · exact up (by omega) (hdl.2 d (List.mem_of_mem_take hd))
                · rw [List.mem_singleton] at hd; rw [hd]; exact hf
              · exact up (by omega) (hdl.2 d (List.mem_of_mem_drop hd))
      · have hl1 : ds.length + (cutL ds (some (-1)) none).length ≤ 100000 := by
          have := cutL_len ds (some (-1)) none
          omega
        let six : List D := [.list ds, .tuple (ds ++ cutL ds (some (-1)) none), .tuple (cutL ds none (some (-1))), .tuple ds.reverse, .tuple (cutL ds (some 1) none), .tuple [.tuple ds]]
        have f6 : ∀ d ∈ six, fine (L + L) d = true := by
          intro d h6
          simp only [six, List.mem_cons, List.not_mem_nil, or_false] at h6
          rcases h6 with rfl | rfl | rfl | rfl | rfl | rfl
          · rw [fine_list]; exact ⟨by omega, fun d h => up (by omega) (hdl.2 d h)⟩
          · rw [fine_tuple]
            refine ⟨by rw [List.length_append]; have := cutL_len ds (some (-1)) none; omega, fun d h => ?_⟩
            rcases List.mem_append.mp h with h | h
            · exact up (by omega) (hdl.2 d h)
            · exact up (by omega) (hdl.2 d (cutL_mem h))
          · exact up (by omega) (cut_fine hd)
          · rw [fine_tuple]
            exact ⟨by rw [List.length_reverse]; omega, fun d h => up (by omega) (hdl.2 d (List.mem_reverse.mp h))⟩
          · exact up (by omega) (cut_fine hd)
          · rw [fine_tuple]
            refine ⟨by simp; omega, fun d h => ?_⟩
            rw [List.mem_singleton] at h
            rw [h]
            exact up (by omega) hd
        have t1 : op3 .sl (.tuple ds) (.int (-1)) .none = .ok (.tuple (cutL ds (some (-1)) none)) := o3_sl_t ds _ _ (bound_i _) bound_n
        have t2 : op3 .sl (.tuple ds) .none (.int (-1)) = .ok (.tuple (cutL ds none (some (-1)))) := o3_sl_t ds _ _ bound_n (bound_i _)
        have t3 : op3 .sl (.tuple ds) (.int 1) .none = .ok (.tuple (cutL ds (some 1) none)) := o3_sl_t ds _ _ (bound_i _) bound_n
        have tw : op2 .mul (.list [.list ds, .tuple (ds ++ cutL ds (some (-1)) none), .tuple (cutL ds none (some (-1))), .tuple ds.reverse, .tuple (cutL ds (some 1) none), .tuple [.tuple ds]]) (.int 2) = .ok (.list (six ++ six)) := twice_l six (by simp [six])
        have ad : op2 .add (.list odd16) (.list (six ++ six)) = .ok (.list (odd16 ++ (six ++ six))) := o2_add_l (by rw [l16]; simp [six])
        obtain ⟨r, hr, i1, i2⟩ := odd_pick n c (odd16 ++ (six ++ six)) (by rw [List.length_append, l16]; omega) (fun d => fine (L + L) d = true) (twice_mem f16 f6)
        refine ⟨r, ?_, hr⟩
        cases he : ds.isEmpty with
        | true =>
          rw [he] at hne
          simp only [evalSs, evalS, evalE, evalEs, evalIT, Res.bind_ok, Res.bind_bad, Res.bind_exc, Res.tame_ok, Fl.go_next, Fl.go_ret, Fl.fin_next, Fl.fin_ret, slot_some, List.getElem?_cons_zero, List.getElem?_cons_succ, List.set_cons_zero, List.set_cons_succ, put_nm, put_tu, puts_nil, puts_cons, chainK_t, chainK_f, truth_bool, truth_none, truth_int, truth_list, truth_tuple, truth_str, o2_add_i, o2_sub_i, o2_lt_i, o2_le_i, o2_gt_i, o2_ge_i, o2_is_n, o2_is_b, o2_isnot_n, o2_isnot_b, o2_eq_i, o2_eq_s, o2_eq_ns, o2_eq_b, o2_ne_b, o2_idx_t0, o2_idx_t1, o1_len_scr, o1_len_t, o1_len_l, o1_len_s, o1_not_b, o1_tuple_l, o1_list_t, o1_list_l, o1_rev_t, o1_neg_i, o1_int_b, isi_s, isi_i, isi_b, isi_n, isi_t, isi_l, isTy, isNone_n, isNone_b, isNone_i, isNone_s, isNone_t, isNone_l, isBool_b, Bool.not_true, Bool.not_false, eq_self, if_true, if_false, Bool.false_eq_true, reduceIte, beq_self_eq_true, f_law_odd, hne, s16, t1, o2_add_t hl1, t2, t3, tw, ad, i2, i1]
        | false =>
          rw [he] at hne
          have hm : ¬ (0 < mix c 9781 5) := fun z => hc ⟨he, z⟩
          simp only [evalSs, evalS, evalE, evalEs, evalIT, Res.bind_ok, Res.bind_bad, Res.bind_exc, Res.tame_ok, Fl.go_next, Fl.go_ret, Fl.fin_next, Fl.fin_ret, slot_some, List.getElem?_cons_zero, List.getElem?_cons_succ, List.set_cons_zero, List.set_cons_succ, put_nm, put_tu, puts_nil, puts_cons, chainK_t, chainK_f, truth_bool, truth_none, truth_int, truth_list, truth_tuple, truth_str, o2_add_i, o2_sub_i, o2_lt_i, o2_le_i, o2_gt_i, o2_ge_i, o2_is_n, o2_is_b, o2_isnot_n, o2_isnot_b, o2_eq_i, o2_eq_s, o2_eq_ns, o2_eq_b, o2_ne_b, o2_idx_t0, o2_idx_t1, o1_len_scr, o1_len_t, o1_len_l, o1_len_s, o1_not_b, o1_tuple_l, o1_list_t, o1_list_l, o1_rev_t, o1_neg_i, o1_int_b, isi_s, isi_i, isi_b, isi_n, isi_t, isi_l, isTy, isNone_n, isNone_b, isNone_i, isNone_s, isNone_t, isNone_l, isBool_b, Bool.not_true, Bool.not_false, eq_self, if_true, if_false, Bool.false_eq_true, reduceIte, beq_self_eq_true, f_law_odd, hne, m1, decide_eq_false hm, s16, t1, o2_add_t hl1, t2, t3, tw, ad, i2, i1]
    | str x =>
      have hx := fine_str.mp hd
      let seven : List D := [.str (x ++ w_a), .str (cutS x none (some (-1))), .str (Txt.upper x), .str (x ++ s_32), .str (x ++ x), .list [.str x], .str (x ++ cutS x none (some 1))]
      have fa : fine 1 (.str w_a) = true := by decide +kernel
      have fs : fine 1 (.str s_32) = true := by decide +kernel
      have f7 : ∀ d ∈ seven, fine (L + L) d = true := by
        intro d h7
        simp only [seven, List.mem_cons, List.not_mem_nil, or_false] at h7
        rcases h7 with rfl | rfl | rfl | rfl | rfl | rfl | rfl
        · exact up (by omega) (cat_fine hd fa)
        · exact up (by omega) (cutS_fine hd)
        · exact up (by omega) (upper_fine hd)
        · exact up (by omega) (cat_fine hd fs)
        · exact cat_fine hd hd
        · rw [fine_list]
          refine ⟨by simp; omega, fun d h => ?_⟩
          rw [List.mem_singleton] at h
          rw [h]
          exact up (by omega) hd
        · exact cat_fine hd (cutS_fine hd)
      have p1 : op2 .add (.str x) (.str w_a) = .ok (.str (x ++ w_a)) := o2_add_s (by have : w_a.length = 1 := rfl; omega)
      have p2 : op2 .add (.str x) (.str s_32) = .ok (.str (x ++ s_32)) := o2_add_s (by have : s_32.length = 1 := rfl; omega)
      have p3 : op2 .add (.str x) (.str (cutS x none (some 1))) = .ok (.str (x ++ cutS x none (some 1))) := o2_add_s (by have := cutS_length x none (some 1); omega)
      have t1 : op3 .sl (.str x) .none (.int (-1)) = .ok (.str (cutS x none (some (-1)))) := o3_sl_s x _ _ bound_n (bound_i _)
      have t2 : op3 .sl (.str x) .none (.int 1) = .ok (.str (cutS x none (some 1))) := o3_sl_s x _ _ bound_n (bound_i _)
      have tw : op2 .mul (.list [.str (x ++ w_a), .str (cutS x none (some (-1))), .str (Txt.upper x), .str (x ++ s_32), .str (x ++ x), .list [.str x], .str (x ++ cutS x none (some 1))]) (.int 2) = .ok (.list (seven ++ seven)) := twice_l seven (by simp [seven])
      have ad : op2 .add (.list odd16) (.list (seven ++ seven)) = .ok (.list (odd16 ++ (seven ++ seven))) := o2_add_l (by rw [l16]; simp [seven])
      obtain ⟨r, hr, i1, i2⟩ := odd_pick n c (odd16 ++ (seven ++ seven)) (by rw [List.length_append, l16]; omega) (fun d => fine (L + L) d = true) (twice_mem f16 f7)
      refine ⟨r, ?_, hr⟩
      simp only [evalSs, evalS, evalE, evalEs, evalIT, Res.bind_ok, Res.bind_bad, Res.bind_exc, Res.tame_ok, Fl.go_next, Fl.go_ret, Fl.fin_next, Fl.fin_ret, slot_some, List.getElem?_cons_zero, List.getElem?_cons_succ, List.set_cons_zero, List.set_cons_succ, put_nm, put_tu, puts_nil, puts_cons, chainK_t, chainK_f, truth_bool, truth_none, truth_int, truth_list, truth_tuple, truth_str, o2_add_i, o2_sub_i, o2_lt_i, o2_le_i, o2_gt_i, o2_ge_i, o2_is_n, o2_is_b, o2_isnot_n, o2_isnot_b, o2_eq_i, o2_eq_s, o2_eq_ns, o2_eq_b, o2_ne_b, o2_idx_t0, o2_idx_t1, o1_len_scr, o1_len_t, o1_len_l, o1_len_s, o1_not_b, o1_tuple_l, o1_list_t, o1_list_l, o1_rev_t, o1_neg_i, o1_int_b, isi_s, isi_i, isi_b, isi_n, isi_t, isi_l, isTy, isNone_n, isNone_b, isNone_i, isNone_s, isNone_t, isNone_l, isBool_b, Bool.not_true, Bool.not_false, eq_self, if_true, if_false, Bool.false_eq_true, reduceIte, beq_self_eq_true, f_law_odd, s16, p1, t1, upper_ok (by omega) hd, p2, twice_s x (by omega), t2, p3, tw, ad, i2, i1]
    | int i =>
      let six : List D := [.int (i + 1), .int (i - 1), .int (0 - i), .tuple [.int i], .int (i + 2), .int (i * 2)]
      have f6 : ∀ d ∈ six, fine (L + L) d = true := by
        intro d h6
        simp only [six, List.mem_cons, List.not_mem_nil, or_false] at h6
        rcases h6 with rfl | rfl | rfl | rfl | rfl | rfl <;> simp [fine, fines] <;> omega
      have e2 : op2 .mul (.int i) (.int 2) = .ok (.int (i * 2)) := o2_mul (mulOk_r (by omega) (by omega))
      have tw : op2 .mul (.list [.int (i + 1), .int (i - 1), .int (0 - i), .tuple [.int i], .int (i + 2), .int (i * 2)]) (.int 2) = .ok (.list (six ++ six)) := twice_l six (by simp [six])
      have ad : op2 .add (.list odd16) (.list (six ++ six)) = .ok (.list (odd16 ++ (six ++ six))) := o2_add_l (by rw [l16]; simp [six])
      obtain ⟨r, hr, i1, i2⟩ := odd_pick n c (odd16 ++ (six ++ six)) (by rw [List.length_append, l16]; omega) (fun d => fine (L + L) d = true) (twice_mem f16 f6)
      refine ⟨r, ?_, hr⟩
      simp only [evalSs, evalS, evalE, evalEs, evalIT, Res.bind_ok, Res.bind_bad, Res.bind_exc, Res.tame_ok, Fl.go_next, Fl.go_ret, Fl.fin_next, Fl.fin_ret, slot_some, List.getElem?_cons_zero, List.getElem?_cons_succ, List.set_cons_zero, List.set_cons_succ, put_nm, put_tu, puts_nil, puts_cons, chainK_t, chainK_f, truth_bool, truth_none, truth_int, truth_list, truth_tuple, truth_str, o2_add_i, o2_sub_i, o2_lt_i, o2_le_i, o2_gt_i, o2_ge_i, o2_is_n, o2_is_b, o2_isnot_n, o2_isnot_b, o2_eq_i, o2_eq_s, o2_eq_ns, o2_eq_b, o2_ne_b, o2_idx_t0, o2_idx_t1, o1_len_scr, o1_len_t, o1_len_l, o1_len_s, o1_not_b, o1_tuple_l, o1_list_t, o1_list_l, o1_rev_t, o1_neg_i, o1_int_b, isi_s, isi_i, isi_b, isi_n, isi_t, isi_l, isTy, isNone_n, isNone_b, isNone_i, isNone_s, isNone_t, isNone_l, isBool_b, Bool.not_true, Bool.not_false, eq_self, if_true, if_false, Bool.false_eq_true, reduceIte, beq_self_eq_true, f_law_odd, s16, e2, tw, ad, i2, i1]
    | bool b =>
      let six : List D := [.int (b2i b + 1), .int (b2i b - 1), .int (0 - b2i b), .tuple [.bool b], .int (b2i b + 2), .int (b2i b * 2)]
      have f6 : ∀ d ∈ six, fine (L + L) d = true := by
        intro d h6
        simp only [six, List.mem_cons, List.not_mem_nil, or_false] at h6
        rcases h6 with rfl | rfl | rfl | rfl | rfl | rfl <;> simp [fine, fines] <;> omega
      have q1 : ∀ j : Int, op2 .add (.bool b) (.int j) = .ok (.int (b2i b + j)) := fun j => rfl
      have q2 : op2 .sub (.bool b) (.int 1) = .ok (.int (b2i b - 1)) := rfl
      have q3 : op2 .sub (.int 0) (.bool b) = .ok (.int (0 - b2i b)) := rfl
      have q4 : op2 .mul (.bool b) (.int 2) = .ok (.int (b2i b * 2)) := rfl
      have tw : op2 .mul (.list [.int (b2i b + 1), .int (b2i b - 1), .int (0 - b2i b), .tuple [.bool b], .int (b2i b + 2), .int (b2i b * 2)]) (.int 2) = .ok (.list (six ++ six)) := twice_l six (by simp [six])
      have ad : op2 .add (.list odd16) (.list (six ++ six)) = .ok (.list (odd16 ++ (six ++ six))) := o2_add_l (by rw [l16]; simp [six])
      obtain ⟨r, hr, i1, i2⟩ := odd_pick n c (odd16 ++ (six ++ six)) (by rw [List.length_append, l16]; omega) (fun d => fine (L + L) d = true) (twice_mem f16 f6)
      refine ⟨r, ?_, hr⟩
      simp only [evalSs, evalS, evalE, evalEs, evalIT, Res.bind_ok, Res.bind_bad, Res.bind_exc, Res.tame_ok, Fl.go_next, Fl.go_ret, Fl.fin_next, Fl.fin_ret, slot_some, List.getElem?_cons_zero, List.getElem?_cons_succ, List.set_cons_zero, List.set_cons_succ, put_nm, put_tu, puts_nil, puts_cons, chainK_t, chainK_f, truth_bool, truth_none, truth_int, truth_list, truth_tuple, truth_str, o2_add_i, o2_sub_i, o2_lt_i, o2_le_i, o2_gt_i, o2_ge_i, o2_is_n, o2_is_b, o2_isnot_n, o2_isnot_b, o2_eq_i, o2_eq_s, o2_eq_ns, o2_eq_b, o2_ne_b, o2_idx_t0, o2_idx_t1, o1_len_scr, o1_len_t, o1_len_l, o1_len_s, o1_not_b, o1_tuple_l, o1_list_t, o1_list_l, o1_rev_t, o1_neg_i, o1_int_b, isi_s, isi_i, isi_b, isi_n, isi_t, isi_l, isTy, isNone_n, isNone_b, isNone_i, isNone_s, isNone_t, isNone_l, isBool_b, Bool.not_true, Bool.not_false, eq_self, if_true, if_false, Bool.false_eq_true, reduceIte, beq_self_eq_true, f_law_odd, s16, q1, q2, q3, q4, tw, ad, i2, i1]
    | none =>
      obtain ⟨r, hr, i1, i2⟩ := odd_pick n c odd16 (by rw [l16]; omega) (fun d => fine (L + L) d = true) f16
      refine ⟨r, ?_, hr⟩
      simp only [evalSs, evalS, evalE, evalEs, evalIT, Res.bind_ok, Res.bind_bad, Res.bind_exc, Res.tame_ok, Fl.go_next, Fl.go_ret, Fl.fin_next, Fl.fin_ret, slot_some, List.getElem?_cons_zero, List.getElem?_cons_succ, List.set_cons_zero, List.set_cons_succ, put_nm, put_tu, puts_nil, puts_cons, chainK_t, chainK_f, truth_bool, truth_none, truth_int, truth_list, truth_tuple, truth_str, o2_add_i, o2_sub_i, o2_lt_i, o2_le_i, o2_gt_i, o2_ge_i, o2_is_n, o2_is_b, o2_isnot_n, o2_isnot_b, o2_eq_i, o2_eq_s, o2_eq_ns, o2_eq_b, o2_ne_b, o2_idx_t0, o2_idx_t1, o1_len_scr, o1_len_t, o1_len_l, o1_len_s, o1_not_b, o1_tuple_l, o1_list_t, o1_list_l, o1_rev_t, o1_neg_i, o1_int_b, isi_s, isi_i, isi_b, isi_n, isi_t, isi_l, isTy, isNone_n, isNone_b, isNone_i, isNone_s, isNone_t, isNone_l, isBool_b, Bool.not_true, Bool.not_false, eq_self, if_true, if_false, Bool.false_eq_true, reduceIte, beq_self_eq_true, f_law_odd, s16, i2, i1]
    | list xs =>
      obtain ⟨r, hr, i1, i2⟩ := odd_pick n c odd16 (by rw [l16]; omega) (fun d => fine (L + L) d = true) f16
      refine ⟨r, ?_, hr⟩
      simp only [evalSs, evalS, evalE, evalEs, evalIT, Res.bind_ok, Res.bind_bad, Res.bind_exc, Res.tame_ok, Fl.go_next, Fl.go_ret, Fl.fin_next, Fl.fin_ret, slot_some, List.getElem?_cons_zero, List.getElem?_cons_succ, List.set_cons_zero, List.set_cons_succ, put_nm, put_tu, puts_nil, puts_cons, chainK_t, chainK_f, truth_bool, truth_none, truth_int, truth_list, truth_tuple, truth_str, o2_add_i, o2_sub_i, o2_lt_i, o2_le_i, o2_gt_i, o2_ge_i, o2_is_n, o2_is_b, o2_isnot_n, o2_isnot_b, o2_eq_i, o2_eq_s, o2_eq_ns, o2_eq_b, o2_ne_b, o2_idx_t0, o2_idx_t1, o1_len_scr, o1_len_t, o1_len_l, o1_len_s, o1_not_b, o1_tuple_l, o1_list_t, o1_list_l, o1_rev_t, o1_neg_i, o1_int_b, isi_s, isi_i, isi_b, isi_n, isi_t, isi_l, isTy, isNone_n, isNone_b, isNone_i, isNone_s, isNone_t, isNone_l, isBool_b, Bool.not_true, Bool.not_false, eq_self, if_true, if_false, Bool.false_eq_true, reduceIte, beq_self_eq_true, f_law_odd, s16, i2, i1]
    | dict _ => simp [fine] at hd
/-! what is a sum -/
def words1 : List Str := [w_size, w_not, w_lacks]
def words2 : List Str := [w_plus, w_less, w_times, w_glue, w_below, w_same, w_and, w_or, w_else]
def ifB (b : Bool) : Int := if b then 1 else 0
def manyOf (w : Str) : Int := 1 * ifB (decide (w ∈ words1)) + 2 * ifB (decide (w ∈ words2)) + 3 * ifB (w == w_if)
def only (f : D → Bool) : List D → Bool
  | [a] => f a
  | _ => false
def isSumT (f : D → Bool) (w : Str) (rest : List D) : Bool :=
  if w = w_col then only isName rest
  else if w = w_gap then only isSort rest
  else if w = w_value then only (fun a => (sortS a).isSome) rest
  else decide (0 < manyOf w) && ((rest.length : Int) == manyOf w) && rest.all f
def isSum : Nat → D → Bool
  | 0, _ => false
  | n + 1, .tuple (.str w :: rest) => isSumT (isSum n) w rest
  | _ + 1, _ => false
theorem sort_of_eq (n : Nat) (d : D) (h : noDict d = true) : callF defs (n + 1) F.sort_of [d] = .ok (optS (sortS d)) := by
  rw [u_sort_of]
  cases d with
  | dict _ => simp [noDict] at h
  | _ => simp only [evalSs, evalS, evalE, evalEs, evalIT, Res.bind_ok, Res.bind_bad, Res.bind_exc, Res.tame_ok, Fl.go_next, Fl.go_ret, Fl.fin_next, Fl.fin_ret, slot_some, List.getElem?_cons_zero, List.getElem?_cons_succ, List.set_cons_zero, List.set_cons_succ, put_nm, put_tu, puts_nil, puts_cons, chainK_t, chainK_f, truth_bool, truth_none, truth_int, truth_list, truth_tuple, truth_str, o2_add_i, o2_sub_i, o2_lt_i, o2_le_i, o2_gt_i, o2_ge_i, o2_is_n, o2_is_b, o2_isnot_n, o2_isnot_b, o2_eq_i, o2_eq_s, o2_eq_ns, o2_eq_b, o2_ne_b, o2_idx_t0, o2_idx_t1, o1_len_scr, o1_len_t, o1_len_l, o1_len_s, o1_not_b, o1_tuple_l, o1_list_t, o1_list_l, o1_rev_t, o1_neg_i, o1_int_b, isi_s, isi_i, isi_b, isi_n, isi_t, isi_l, isTy, isNone_n, isNone_b, isNone_i, isNone_s, isNone_t, isNone_l, isBool_b, Bool.not_true, Bool.not_false, eq_self, if_true, if_false, Bool.false_eq_true, reduceIte, beq_self_eq_true, f_sort_of, sortS, optS]
theorem opt_none (o : Option Str) : (!isNone (optS o)) = o.isSome := by cases o <;> rfl
theorem only_len {f : D → Bool} {rest : List D} (h : rest.length ≠ 1) : only f rest = false := by
  match rest, h with
  | [], _ => rfl
  | [_], h => exact absurd rfl h
  | _ :: _ :: _, _ => rfl
theorem manyOf_lt (w : Str) (rest : List D) (f : D → Bool) : rest = [] → isSumT f w rest = false := fun e => by
  subst e
  unfold isSumT
  repeat' split
  · rfl
  · rfl
  · rfl
  · by_cases h : 0 < manyOf w
    · have : (((([] : List D).length : Nat) : Int) == manyOf w) = false := by
        rw [beq_eq_false_iff_ne]
        simp only [List.length_nil]
        omega
      rw [this]; simp
    · rw [decide_eq_false h] <;> rfl
theorem cut_1 (a : D) (r : List D) : op3 .sl (.tuple (a :: r)) (.int 1) .none = .ok (.tuple r) := by
  rw [o3_sl_t _ _ _ (bound_i _) bound_n, cut_from _ _ (by omega)] <;> rfl
theorem len_lt2 (a b : D) (r : List D) : decide (((a :: b :: r).length : Int) < 2) = false := decide_eq_false (by simp only [List.length_cons]; push_cast; omega)
theorem len_1lt2 (a : D) : decide ((([a] : List D).length : Int) < 2) = true := decide_eq_true (by simp)
theorem len_0lt2 : decide ((([] : List D).length : Int) < 2) = true := decide_eq_true (by simp)
theorem in_leaf (w : Str) : op2 .in_ (.str w) (.tuple [.str w_col, .str w_value, .str w_gap]) = .ok (.bool (decide (w ∈ [w_col, w_value, w_gap]))) := in_ws w [w_col, w_value, w_gap]
theorem in_one (w : Str) : op2 .in_ (.str w) g_ONE = .ok (.bool (decide (w ∈ words1))) := in_ws w words1
theorem in_two (w : Str) : op2 .in_ (.str w) g_TWO = .ok (.bool (decide (w ∈ words2))) := in_ws w words2
theorem int_ifB (b : Bool) : op1 .int (.bool b) = .ok (.int (ifB b)) := by cases b <;> rfl
theorem leaf_ne : w_col ≠ w_value ∧ w_col ≠ w_gap ∧ w_value ≠ w_gap ∧ w_value ≠ w_col ∧ w_gap ≠ w_col ∧ w_gap ≠ w_value := by decide +kernel
theorem is_sum_in_eq : ∀ (n k : Nat) (d : D) (dp : Int), dp = n → noDict d = true → callF defs (n + k + 2) F.is_sum_in [d, .int dp] = .ok (.bool (isSum n d))
  | 0, k, d, dp, e, h => by
    subst e
    rw [u_is_sum_in]
    exact fin_of (seq_if_t (d := .bool true) (by simp only [evalSs, evalS, evalE, evalEs, evalIT, Res.bind_ok, Res.bind_bad, Res.bind_exc, Res.tame_ok, Fl.go_next, Fl.go_ret, Fl.fin_next, Fl.fin_ret, slot_some, List.getElem?_cons_zero, List.getElem?_cons_succ, List.set_cons_zero, List.set_cons_succ, put_nm, put_tu, puts_nil, puts_cons, chainK_t, chainK_f, truth_bool, truth_none, truth_int, truth_list, truth_tuple, truth_str, o2_add_i, o2_sub_i, o2_lt_i, o2_le_i, o2_gt_i, o2_ge_i, o2_is_n, o2_is_b, o2_isnot_n, o2_isnot_b, o2_eq_i, o2_eq_s, o2_eq_ns, o2_eq_b, o2_ne_b, o2_idx_t0, o2_idx_t1, o1_len_scr, o1_len_t, o1_len_l, o1_len_s, o1_not_b, o1_tuple_l, o1_list_t, o1_list_l, o1_rev_t, o1_neg_i, o1_int_b, isi_s, isi_i, isi_b, isi_n, isi_t, isi_l, isTy, isNone_n, isNone_b, isNone_i, isNone_s, isNone_t, isNone_l, isBool_b, Bool.not_true, Bool.not_false, eq_self, if_true, if_false, Bool.false_eq_true, reduceIte, beq_self_eq_true, Int.natCast_zero] <;> rfl) rfl (seq_ret (by simp only [evalSs, evalS, evalE, evalEs, evalIT, Res.bind_ok, Res.bind_bad, Res.bind_exc, Res.tame_ok, Fl.go_next, Fl.go_ret, Fl.fin_next, Fl.fin_ret, slot_some, List.getElem?_cons_zero, List.getElem?_cons_succ, List.set_cons_zero, List.set_cons_succ, put_nm, put_tu, puts_nil, puts_cons, chainK_t, chainK_f, truth_bool, truth_none, truth_int, truth_list, truth_tuple, truth_str, o2_add_i, o2_sub_i, o2_lt_i, o2_le_i, o2_gt_i, o2_ge_i, o2_is_n, o2_is_b, o2_isnot_n, o2_isnot_b, o2_eq_i, o2_eq_s, o2_eq_ns, o2_eq_b, o2_ne_b, o2_idx_t0, o2_idx_t1, o1_len_scr, o1_len_t, o1_len_l, o1_len_s, o1_not_b, o1_tuple_l, o1_list_t, o1_list_l, o1_rev_t, o1_neg_i, o1_int_b, isi_s, isi_i, isi_b, isi_n, isi_t, isi_l, isTy, isNone_n, isNone_b, isNone_i, isNone_s, isNone_t, isNone_l, isBool_b, Bool.not_true, Bool.not_false, eq_self, if_true, if_false, Bool.false_eq_true, reduceIte, beq_self_eq_true] <;> rfl)))
  | n + 1, k, d, dp, e, h => by
    have z : (dp == 0) = false := beq_eq_false_iff_ne.mpr (by omega)
    rw [show n + 1 + k + 2 = (n + k + 2) + 1 by omega, u_is_sum_in]
    have ih : ∀ d : D, noDict d = true → callF defs (n + k + 2) F.is_sum_in [d, .int (dp - 1)] = .ok (.bool (isSum n d)) := fun d hd => is_sum_in_eq n k d (dp - 1) (by omega) hd
    have hN : ∀ d : D, noDict d = true → callF defs (n + k + 2) F.is_name [d] = .ok (.bool (isName d)) := fun d hd => is_name_eq (n + k + 1) d hd
    have hS : ∀ d : D, noDict d = true → callF defs (n + k + 2) F.is_sort [d] = .ok (.bool (isSort d)) := fun d hd => is_sort_eq (n + k + 1) d hd
    have hO : ∀ d : D, noDict d = true → callF defs (n + k + 2) F.sort_of [d] = .ok (optS (sortS d)) := fun d hd => sort_of_eq (n + k + 1) d hd
    generalize callF defs (n + k + 2) = ρ at ih hN hS hO
    cases d with
    | tuple ds =>
      match ds, h with
      | [], _ => exact fin_of (seq_if_t (d := .bool true) (by simp only [evalSs, evalS, evalE, evalEs, evalIT, Res.bind_ok, Res.bind_bad, Res.bind_exc, Res.tame_ok, Fl.go_next, Fl.go_ret, Fl.fin_next, Fl.fin_ret, slot_some, List.getElem?_cons_zero, List.getElem?_cons_succ, List.set_cons_zero, List.set_cons_succ, put_nm, put_tu, puts_nil, puts_cons, chainK_t, chainK_f, truth_bool, truth_none, truth_int, truth_list, truth_tuple, truth_str, o2_add_i, o2_sub_i, o2_lt_i, o2_le_i, o2_gt_i, o2_ge_i, o2_is_n, o2_is_b, o2_isnot_n, o2_isnot_b, o2_eq_i, o2_eq_s, o2_eq_ns, o2_eq_b, o2_ne_b, o2_idx_t0, o2_idx_t1, o1_len_scr, o1_len_t, o1_len_l, o1_len_s, o1_not_b, o1_tuple_l, o1_list_t, o1_list_l, o1_rev_t, o1_neg_i, o1_int_b, isi_s, isi_i, isi_b, isi_n, isi_t, isi_l, isTy, isNone_n, isNone_b, isNone_i, isNone_s, isNone_t, isNone_l, isBool_b, Bool.not_true, Bool.not_false, eq_self, if_true, if_false, Bool.false_eq_true, reduceIte, beq_self_eq_true, z, len_0lt2]) rfl (seq_ret (by simp only [evalSs, evalS, evalE, evalEs, evalIT, Res.bind_ok, Res.bind_bad, Res.bind_exc, Res.tame_ok, Fl.go_next, Fl.go_ret, Fl.fin_next, Fl.fin_ret, slot_some, List.getElem?_cons_zero, List.getElem?_cons_succ, List.set_cons_zero, List.set_cons_succ, put_nm, put_tu, puts_nil, puts_cons, chainK_t, chainK_f, truth_bool, truth_none, truth_int, truth_list, truth_tuple, truth_str, o2_add_i, o2_sub_i, o2_lt_i, o2_le_i, o2_gt_i, o2_ge_i, o2_is_n, o2_is_b, o2_isnot_n, o2_isnot_b, o2_eq_i, o2_eq_s, o2_eq_ns, o2_eq_b, o2_ne_b, o2_idx_t0, o2_idx_t1, o1_len_scr, o1_len_t, o1_len_l, o1_len_s, o1_not_b, o1_tuple_l, o1_list_t, o1_list_l, o1_rev_t, o1_neg_i, o1_int_b, isi_s, isi_i, isi_b, isi_n, isi_t, isi_l, isTy, isNone_n, isNone_b, isNone_i, isNone_s, isNone_t, isNone_l, isBool_b, Bool.not_true, Bool.not_false, eq_self, if_true, if_false, Bool.false_eq_true, reduceIte, beq_self_eq_true] <;> rfl)))
      | [a], _ =>
        have : isSum (n + 1) (.tuple [a]) = false := by
          cases a with
          | str w => exact manyOf_lt w [] _ rfl
          | _ => rfl
        rw [this]
        exact fin_of (seq_if_t (d := .bool true) (by simp only [evalSs, evalS, evalE, evalEs, evalIT, Res.bind_ok, Res.bind_bad, Res.bind_exc, Res.tame_ok, Fl.go_next, Fl.go_ret, Fl.fin_next, Fl.fin_ret, slot_some, List.getElem?_cons_zero, List.getElem?_cons_succ, List.set_cons_zero, List.set_cons_succ, put_nm, put_tu, puts_nil, puts_cons, chainK_t, chainK_f, truth_bool, truth_none, truth_int, truth_list, truth_tuple, truth_str, o2_add_i, o2_sub_i, o2_lt_i, o2_le_i, o2_gt_i, o2_ge_i, o2_is_n, o2_is_b, o2_isnot_n, o2_isnot_b, o2_eq_i, o2_eq_s, o2_eq_ns, o2_eq_b, o2_ne_b, o2_idx_t0, o2_idx_t1, o1_len_scr, o1_len_t, o1_len_l, o1_len_s, o1_not_b, o1_tuple_l, o1_list_t, o1_list_l, o1_rev_t, o1_neg_i, o1_int_b, isi_s, isi_i, isi_b, isi_n, isi_t, isi_l, isTy, isNone_n, isNone_b, isNone_i, isNone_s, isNone_t, isNone_l, isBool_b, Bool.not_true, Bool.not_false, eq_self, if_true, if_false, Bool.false_eq_true, reduceIte, beq_self_eq_true, z, len_1lt2]) rfl (seq_ret (by simp only [evalSs, evalS, evalE, evalEs, evalIT, Res.bind_ok, Res.bind_bad, Res.bind_exc, Res.tame_ok, Fl.go_next, Fl.go_ret, Fl.fin_next, Fl.fin_ret, slot_some, List.getElem?_cons_zero, List.getElem?_cons_succ, List.set_cons_zero, List.set_cons_succ, put_nm, put_tu, puts_nil, puts_cons, chainK_t, chainK_f, truth_bool, truth_none, truth_int, truth_list, truth_tuple, truth_str, o2_add_i, o2_sub_i, o2_lt_i, o2_le_i, o2_gt_i, o2_ge_i, o2_is_n, o2_is_b, o2_isnot_n, o2_isnot_b, o2_eq_i, o2_eq_s, o2_eq_ns, o2_eq_b, o2_ne_b, o2_idx_t0, o2_idx_t1, o1_len_scr, o1_len_t, o1_len_l, o1_len_s, o1_not_b, o1_tuple_l, o1_list_t, o1_list_l, o1_rev_t, o1_neg_i, o1_int_b, isi_s, isi_i, isi_b, isi_n, isi_t, isi_l, isTy, isNone_n, isNone_b, isNone_i, isNone_s, isNone_t, isNone_l, isBool_b, Bool.not_true, Bool.not_false, eq_self, if_true, if_false, Bool.false_eq_true, reduceIte, beq_self_eq_true] <;> rfl)))
      | a :: b :: r, h =>
        simp only [noDict, noDicts, Bool.and_eq_true] at h
        cases a with
        | str w =>
          have g1 : evalE ρ (.or_ (.o2 .eq (.var 1) (.int 0)) (.or_ (.o1 .not (.isi (.var 0) .tuple)) (.or_ (.o2 .lt (.o1 .len (.var 0)) (.int 2)) (.o1 .not (.isi (.o2 .idx (.var 0) (.int 0)) .str))))) [some (.tuple (.str w :: b :: r)), some (.int dp), none, none, none] = .ok (.bool false) := by simp only [evalSs, evalS, evalE, evalEs, evalIT, Res.bind_ok, Res.bind_bad, Res.bind_exc, Res.tame_ok, Fl.go_next, Fl.go_ret, Fl.fin_next, Fl.fin_ret, slot_some, List.getElem?_cons_zero, List.getElem?_cons_succ, List.set_cons_zero, List.set_cons_succ, put_nm, put_tu, puts_nil, puts_cons, chainK_t, chainK_f, truth_bool, truth_none, truth_int, truth_list, truth_tuple, truth_str, o2_add_i, o2_sub_i, o2_lt_i, o2_le_i, o2_gt_i, o2_ge_i, o2_is_n, o2_is_b, o2_isnot_n, o2_isnot_b, o2_eq_i, o2_eq_s, o2_eq_ns, o2_eq_b, o2_ne_b, o2_idx_t0, o2_idx_t1, o1_len_scr, o1_len_t, o1_len_l, o1_len_s, o1_not_b, o1_tuple_l, o1_list_t, o1_list_l, o1_rev_t, o1_neg_i, o1_int_b, isi_s, isi_i, isi_b, isi_n, isi_t, isi_l, isTy, isNone_n, isNone_b, isNone_i, isNone_s, isNone_t, isNone_l, isBool_b, Bool.not_true, Bool.not_false, eq_self, if_true, if_false, Bool.false_eq_true, reduceIte, beq_self_eq_true, z, len_lt2]
          show (evalSs ρ _ _).bind Fl.fin = .ok (.bool (isSumT (isSum n) w (b :: r)))
          have len : (((PyData.str w :: b :: r).length : Nat) : Int) = (r.length : Int) + 2 := by simp only [List.length_cons]; push_cast; omega
          by_cases hw : w ∈ [w_col, w_value, w_gap]
          · refine fin_of ((seq_if_f g1 rfl rfl).trans ((seq_asg (by simp only [evalSs, evalS, evalE, evalEs, evalIT, Res.bind_ok, Res.bind_bad, Res.bind_exc, Res.tame_ok, Fl.go_next, Fl.go_ret, Fl.fin_next, Fl.fin_ret, slot_some, List.getElem?_cons_zero, List.getElem?_cons_succ, List.set_cons_zero, List.set_cons_succ, put_nm, put_tu, puts_nil, puts_cons, chainK_t, chainK_f, truth_bool, truth_none, truth_int, truth_list, truth_tuple, truth_str, o2_add_i, o2_sub_i, o2_lt_i, o2_le_i, o2_gt_i, o2_ge_i, o2_is_n, o2_is_b, o2_isnot_n, o2_isnot_b, o2_eq_i, o2_eq_s, o2_eq_ns, o2_eq_b, o2_ne_b, o2_idx_t0, o2_idx_t1, o1_len_scr, o1_len_t, o1_len_l, o1_len_s, o1_not_b, o1_tuple_l, o1_list_t, o1_list_l, o1_rev_t, o1_neg_i, o1_int_b, isi_s, isi_i, isi_b, isi_n, isi_t, isi_l, isTy, isNone_n, isNone_b, isNone_i, isNone_s, isNone_t, isNone_l, isBool_b, Bool.not_true, Bool.not_false, eq_self, if_true, if_false, Bool.false_eq_true, reduceIte, beq_self_eq_true] <;> rfl)).trans (seq_if_t (by simp only [evalSs, evalS, evalE, evalEs, evalIT, Res.bind_ok, Res.bind_bad, Res.bind_exc, Res.tame_ok, Fl.go_next, Fl.go_ret, Fl.fin_next, Fl.fin_ret, slot_some, List.getElem?_cons_zero, List.getElem?_cons_succ, List.set_cons_zero, List.set_cons_succ, put_nm, put_tu, puts_nil, puts_cons, chainK_t, chainK_f, truth_bool, truth_none, truth_int, truth_list, truth_tuple, truth_str, o2_add_i, o2_sub_i, o2_lt_i, o2_le_i, o2_gt_i, o2_ge_i, o2_is_n, o2_is_b, o2_isnot_n, o2_isnot_b, o2_eq_i, o2_eq_s, o2_eq_ns, o2_eq_b, o2_ne_b, o2_idx_t0, o2_idx_t1, o1_len_scr, o1_len_t, o1_len_l, o1_len_s, o1_not_b, o1_tuple_l, o1_list_t, o1_list_l, o1_rev_t, o1_neg_i, o1_int_b, isi_s, isi_i, isi_b, isi_n, isi_t, isi_l, isTy, isNone_n, isNone_b, isNone_i, isNone_s, isNone_t, isNone_l, isBool_b, Bool.not_true, Bool.not_false, eq_self, if_true, if_false, Bool.false_eq_true, reduceIte, beq_self_eq_true, in_leaf] <;> rfl) (by rw [decide_eq_true hw] <;> rfl) ?_)))
            by_cases hr : r = []
            · subst hr
              refine (seq_if_f (d := .bool false) (by simp only [evalSs, evalS, evalE, evalEs, evalIT, Res.bind_ok, Res.bind_bad, Res.bind_exc, Res.tame_ok, Fl.go_next, Fl.go_ret, Fl.fin_next, Fl.fin_ret, slot_some, List.getElem?_cons_zero, List.getElem?_cons_succ, List.set_cons_zero, List.set_cons_succ, put_nm, put_tu, puts_nil, puts_cons, chainK_t, chainK_f, truth_bool, truth_none, truth_int, truth_list, truth_tuple, truth_str, o2_add_i, o2_sub_i, o2_lt_i, o2_le_i, o2_gt_i, o2_ge_i, o2_is_n, o2_is_b, o2_isnot_n, o2_isnot_b, o2_eq_i, o2_eq_s, o2_eq_ns, o2_eq_b, o2_ne_b, o2_idx_t0, o2_idx_t1, o1_len_scr, o1_len_t, o1_len_l, o1_len_s, o1_not_b, o1_tuple_l, o1_list_t, o1_list_l, o1_rev_t, o1_neg_i, o1_int_b, isi_s, isi_i, isi_b, isi_n, isi_t, isi_l, isTy, isNone_n, isNone_b, isNone_i, isNone_s, isNone_t, isNone_l, isBool_b, Bool.not_true, Bool.not_false, eq_self, if_true, if_false, Bool.false_eq_true, reduceIte, beq_self_eq_true, o2_ne_i, len] <;> rfl) rfl rfl).trans ?_
              simp only [List.mem_cons, List.not_mem_nil, or_false] at hw
              rcases hw with rfl | rfl | rfl
              · exact seq_if_t (d := .bool true) (by simp only [evalSs, evalS, evalE, evalEs, evalIT, Res.bind_ok, Res.bind_bad, Res.bind_exc, Res.tame_ok, Fl.go_next, Fl.go_ret, Fl.fin_next, Fl.fin_ret, slot_some, List.getElem?_cons_zero, List.getElem?_cons_succ, List.set_cons_zero, List.set_cons_succ, put_nm, put_tu, puts_nil, puts_cons, chainK_t, chainK_f, truth_bool, truth_none, truth_int, truth_list, truth_tuple, truth_str, o2_add_i, o2_sub_i, o2_lt_i, o2_le_i, o2_gt_i, o2_ge_i, o2_is_n, o2_is_b, o2_isnot_n, o2_isnot_b, o2_eq_i, o2_eq_s, o2_eq_ns, o2_eq_b, o2_ne_b, o2_idx_t0, o2_idx_t1, o1_len_scr, o1_len_t, o1_len_l, o1_len_s, o1_not_b, o1_tuple_l, o1_list_t, o1_list_l, o1_rev_t, o1_neg_i, o1_int_b, isi_s, isi_i, isi_b, isi_n, isi_t, isi_l, isTy, isNone_n, isNone_b, isNone_i, isNone_s, isNone_t, isNone_l, isBool_b, Bool.not_true, Bool.not_false, eq_self, if_true, if_false, Bool.false_eq_true, reduceIte, beq_self_eq_true]) rfl (seq_ret (by simp only [evalSs, evalS, evalE, evalEs, evalIT, Res.bind_ok, Res.bind_bad, Res.bind_exc, Res.tame_ok, Fl.go_next, Fl.go_ret, Fl.fin_next, Fl.fin_ret, slot_some, List.getElem?_cons_zero, List.getElem?_cons_succ, List.set_cons_zero, List.set_cons_succ, put_nm, put_tu, puts_nil, puts_cons, chainK_t, chainK_f, truth_bool, truth_none, truth_int, truth_list, truth_tuple, truth_str, o2_add_i, o2_sub_i, o2_lt_i, o2_le_i, o2_gt_i, o2_ge_i, o2_is_n, o2_is_b, o2_isnot_n, o2_isnot_b, o2_eq_i, o2_eq_s, o2_eq_ns, o2_eq_b, o2_ne_b, o2_idx_t0, o2_idx_t1, o1_len_scr, o1_len_t, o1_len_l, o1_len_s, o1_not_b, o1_tuple_l, o1_list_t, o1_list_l, o1_rev_t, o1_neg_i, o1_int_b, isi_s, isi_i, isi_b, isi_n, isi_t, isi_l, isTy, isNone_n, isNone_b, isNone_i, isNone_s, isNone_t, isNone_l, isBool_b, Bool.not_true, Bool.not_false, eq_self, if_true, if_false, Bool.false_eq_true, reduceIte, beq_self_eq_true, hN b h.2.1] <;> rfl))
              · have e1 : (w_value == w_col) = false := by decide +kernel
                have e2 : (w_value == w_gap) = false := by decide +kernel
                exact (seq_if_f (d := .bool false) (by simp only [evalSs, evalS, evalE, evalEs, evalIT, Res.bind_ok, Res.bind_bad, Res.bind_exc, Res.tame_ok, Fl.go_next, Fl.go_ret, Fl.fin_next, Fl.fin_ret, slot_some, List.getElem?_cons_zero, List.getElem?_cons_succ, List.set_cons_zero, List.set_cons_succ, put_nm, put_tu, puts_nil, puts_cons, chainK_t, chainK_f, truth_bool, truth_none, truth_int, truth_list, truth_tuple, truth_str, o2_add_i, o2_sub_i, o2_lt_i, o2_le_i, o2_gt_i, o2_ge_i, o2_is_n, o2_is_b, o2_isnot_n, o2_isnot_b, o2_eq_i, o2_eq_s, o2_eq_ns, o2_eq_b, o2_ne_b, o2_idx_t0, o2_idx_t1, o1_len_scr, o1_len_t, o1_len_l, o1_len_s, o1_not_b, o1_tuple_l, o1_list_t, o1_list_l, o1_rev_t, o1_neg_i, o1_int_b, isi_s, isi_i, isi_b, isi_n, isi_t, isi_l, isTy, isNone_n, isNone_b, isNone_i, isNone_s, isNone_t, isNone_l, isBool_b, Bool.not_true, Bool.not_false, eq_self, if_true, if_false, Bool.false_eq_true, reduceIte, beq_self_eq_true, e1]) rfl rfl).trans ((seq_if_f (d := .bool false) (by simp only [evalSs, evalS, evalE, evalEs, evalIT, Res.bind_ok, Res.bind_bad, Res.bind_exc, Res.tame_ok, Fl.go_next, Fl.go_ret, Fl.fin_next, Fl.fin_ret, slot_some, List.getElem?_cons_zero, List.getElem?_cons_succ, List.set_cons_zero, List.set_cons_succ, put_nm, put_tu, puts_nil, puts_cons, chainK_t, chainK_f, truth_bool, truth_none, truth_int, truth_list, truth_tuple, truth_str, o2_add_i, o2_sub_i, o2_lt_i, o2_le_i, o2_gt_i, o2_ge_i, o2_is_n, o2_is_b, o2_isnot_n, o2_isnot_b, o2_eq_i, o2_eq_s, o2_eq_ns, o2_eq_b, o2_ne_b, o2_idx_t0, o2_idx_t1, o1_len_scr, o1_len_t, o1_len_l, o1_len_s, o1_not_b, o1_tuple_l, o1_list_t, o1_list_l, o1_rev_t, o1_neg_i, o1_int_b, isi_s, isi_i, isi_b, isi_n, isi_t, isi_l, isTy, isNone_n, isNone_b, isNone_i, isNone_s, isNone_t, isNone_l, isBool_b, Bool.not_true, Bool.not_false, eq_self, if_true, if_false, Bool.false_eq_true, reduceIte, beq_self_eq_true, e2]) rfl rfl).trans (seq_ret (by simp only [evalSs, evalS, evalE, evalEs, evalIT, Res.bind_ok, Res.bind_bad, Res.bind_exc, Res.tame_ok, Fl.go_next, Fl.go_ret, Fl.fin_next, Fl.fin_ret, slot_some, List.getElem?_cons_zero, List.getElem?_cons_succ, List.set_cons_zero, List.set_cons_succ, put_nm, put_tu, puts_nil, puts_cons, chainK_t, chainK_f, truth_bool, truth_none, truth_int, truth_list, truth_tuple, truth_str, o2_add_i, o2_sub_i, o2_lt_i, o2_le_i, o2_gt_i, o2_ge_i, o2_is_n, o2_is_b, o2_isnot_n, o2_isnot_b, o2_eq_i, o2_eq_s, o2_eq_ns, o2_eq_b, o2_ne_b, o2_idx_t0, o2_idx_t1, o1_len_scr, o1_len_t, o1_len_l, o1_len_s, o1_not_b, o1_tuple_l, o1_list_t, o1_list_l, o1_rev_t, o1_neg_i, o1_int_b, isi_s, isi_i, isi_b, isi_n, isi_t, isi_l, isTy, isNone_n, isNone_b, isNone_i, isNone_s, isNone_t, isNone_l, isBool_b, Bool.not_true, Bool.not_false, eq_self, if_true, if_false, Bool.false_eq_true, reduceIte, beq_self_eq_true, hO b h.2.1, opt_none] <;> rfl)))
              · have e1 : (w_gap == w_col) = false := by decide +kernel
                exact (seq_if_f (d := .bool false) (by simp only [evalSs, evalS, evalE, evalEs, evalIT, Res.bind_ok, Res.bind_bad, Res.bind_exc, Res.tame_ok, Fl.go_next, Fl.go_ret, Fl.fin_next, Fl.fin_ret, slot_some, List.getElem?_cons_zero, List.getElem?_cons_succ, List.set_cons_zero, List.set_cons_succ, put_nm, put_tu, puts_nil, puts_cons, chainK_t, chainK_f, truth_bool, truth_none, truth_int, truth_list, truth_tuple, truth_str, o2_add_i, o2_sub_i, o2_lt_i, o2_le_i, o2_gt_i, o2_ge_i, o2_is_n, o2_is_b, o2_isnot_n, o2_isnot_b, o2_eq_i, o2_eq_s, o2_eq_ns, o2_eq_b, o2_ne_b, o2_idx_t0, o2_idx_t1, o1_len_scr, o1_len_t, o1_len_l, o1_len_s, o1_not_b, o1_tuple_l, o1_list_t, o1_list_l, o1_rev_t, o1_neg_i, o1_int_b, isi_s, isi_i, isi_b, isi_n, isi_t, isi_l, isTy, isNone_n, isNone_b, isNone_i, isNone_s, isNone_t, isNone_l, isBool_b, Bool.not_true, Bool.not_false, eq_self, if_true, if_false, Bool.false_eq_true, reduceIte, beq_self_eq_true, e1]) rfl rfl).trans (seq_if_t (d := .bool true) (by simp only [evalSs, evalS, evalE, evalEs, evalIT, Res.bind_ok, Res.bind_bad, Res.bind_exc, Res.tame_ok, Fl.go_next, Fl.go_ret, Fl.fin_next, Fl.fin_ret, slot_some, List.getElem?_cons_zero, List.getElem?_cons_succ, List.set_cons_zero, List.set_cons_succ, put_nm, put_tu, puts_nil, puts_cons, chainK_t, chainK_f, truth_bool, truth_none, truth_int, truth_list, truth_tuple, truth_str, o2_add_i, o2_sub_i, o2_lt_i, o2_le_i, o2_gt_i, o2_ge_i, o2_is_n, o2_is_b, o2_isnot_n, o2_isnot_b, o2_eq_i, o2_eq_s, o2_eq_ns, o2_eq_b, o2_ne_b, o2_idx_t0, o2_idx_t1, o1_len_scr, o1_len_t, o1_len_l, o1_len_s, o1_not_b, o1_tuple_l, o1_list_t, o1_list_l, o1_rev_t, o1_neg_i, o1_int_b, isi_s, isi_i, isi_b, isi_n, isi_t, isi_l, isTy, isNone_n, isNone_b, isNone_i, isNone_s, isNone_t, isNone_l, isBool_b, Bool.not_true, Bool.not_false, eq_self, if_true, if_false, Bool.false_eq_true, reduceIte, beq_self_eq_true]) rfl (seq_ret (by simp only [evalSs, evalS, evalE, evalEs, evalIT, Res.bind_ok, Res.bind_bad, Res.bind_exc, Res.tame_ok, Fl.go_next, Fl.go_ret, Fl.fin_next, Fl.fin_ret, slot_some, List.getElem?_cons_zero, List.getElem?_cons_succ, List.set_cons_zero, List.set_cons_succ, put_nm, put_tu, puts_nil, puts_cons, chainK_t, chainK_f, truth_bool, truth_none, truth_int, truth_list, truth_tuple, truth_str, o2_add_i, o2_sub_i, o2_lt_i, o2_le_i, o2_gt_i, o2_ge_i, o2_is_n, o2_is_b, o2_isnot_n, o2_isnot_b, o2_eq_i, o2_eq_s, o2_eq_ns, o2_eq_b, o2_ne_b, o2_idx_t0, o2_idx_t1, o1_len_scr, o1_len_t, o1_len_l, o1_len_s, o1_not_b, o1_tuple_l, o1_list_t, o1_list_l, o1_rev_t, o1_neg_i, o1_int_b, isi_s, isi_i, isi_b, isi_n, isi_t, isi_l, isTy, isNone_n, isNone_b, isNone_i, isNone_s, isNone_t, isNone_l, isBool_b, Bool.not_true, Bool.not_false, eq_self, if_true, if_false, Bool.false_eq_true, reduceIte, beq_self_eq_true, hS b h.2.1] <;> rfl)))
            · have hl : 0 < r.length := List.length_pos_iff.mpr hr
              have hl1 : (b :: r).length ≠ 1 := by simp only [List.length_cons]; omega
              have l1 : (!((r.length : Int) + 2 == 2)) = true := by
                rw [beq_eq_false_iff_ne.mpr (by omega)] <;> rfl
              have : isSumT (isSum n) w (b :: r) = false := by
                simp only [List.mem_cons, List.not_mem_nil, or_false] at hw
                unfold isSumT
                rcases hw with rfl | rfl | rfl
                · rw [if_pos rfl, only_len hl1]
                · rw [if_neg leaf_ne.2.2.2.1, if_neg leaf_ne.2.2.1, if_pos rfl, only_len hl1]
                · rw [if_neg leaf_ne.2.2.2.2.1, if_pos rfl, only_len hl1]
              rw [this]
              exact seq_if_t (d := .bool true) (by simp only [evalSs, evalS, evalE, evalEs, evalIT, Res.bind_ok, Res.bind_bad, Res.bind_exc, Res.tame_ok, Fl.go_next, Fl.go_ret, Fl.fin_next, Fl.fin_ret, slot_some, List.getElem?_cons_zero, List.getElem?_cons_succ, List.set_cons_zero, List.set_cons_succ, put_nm, put_tu, puts_nil, puts_cons, chainK_t, chainK_f, truth_bool, truth_none, truth_int, truth_list, truth_tuple, truth_str, o2_add_i, o2_sub_i, o2_lt_i, o2_le_i, o2_gt_i, o2_ge_i, o2_is_n, o2_is_b, o2_isnot_n, o2_isnot_b, o2_eq_i, o2_eq_s, o2_eq_ns, o2_eq_b, o2_ne_b, o2_idx_t0, o2_idx_t1, o1_len_scr, o1_len_t, o1_len_l, o1_len_s, o1_not_b, o1_tuple_l, o1_list_t, o1_list_l, o1_rev_t, o1_neg_i, o1_int_b, isi_s, isi_i, isi_b, isi_n, isi_t, isi_l, isTy, isNone_n, isNone_b, isNone_i, isNone_s, isNone_t, isNone_l, isBool_b, Bool.not_true, Bool.not_false, eq_self, if_true, if_false, Bool.false_eq_true, reduceIte, beq_self_eq_true, o2_ne_i, len, l1]) rfl (seq_ret (by simp only [evalSs, evalS, evalE, evalEs, evalIT, Res.bind_ok, Res.bind_bad, Res.bind_exc, Res.tame_ok, Fl.go_next, Fl.go_ret, Fl.fin_next, Fl.fin_ret, slot_some, List.getElem?_cons_zero, List.getElem?_cons_succ, List.set_cons_zero, List.set_cons_succ, put_nm, put_tu, puts_nil, puts_cons, chainK_t, chainK_f, truth_bool, truth_none, truth_int, truth_list, truth_tuple, truth_str, o2_add_i, o2_sub_i, o2_lt_i, o2_le_i, o2_gt_i, o2_ge_i, o2_is_n, o2_is_b, o2_isnot_n, o2_isnot_b, o2_eq_i, o2_eq_s, o2_eq_ns, o2_eq_b, o2_ne_b, o2_idx_t0, o2_idx_t1, o1_len_scr, o1_len_t, o1_len_l, o1_len_s, o1_not_b, o1_tuple_l, o1_list_t, o1_list_l, o1_rev_t, o1_neg_i, o1_int_b, isi_s, isi_i, isi_b, isi_n, isi_t, isi_l, isTy, isNone_n, isNone_b, isNone_i, isNone_s, isNone_t, isNone_l, isBool_b, Bool.not_true, Bool.not_false, eq_self, if_true, if_false, Bool.false_eq_true, reduceIte, beq_self_eq_true] <;> rfl))
          · have hw' := hw
            simp only [List.mem_cons, List.not_mem_nil, or_false, not_or] at hw'
            have eT : isSumT (isSum n) w (b :: r) = (decide (0 < manyOf w) && (((b :: r).length : Int) == manyOf w) && (b :: r).all (isSum n)) := by
              unfold isSumT
              rw [if_neg hw'.1, if_neg hw'.2.2, if_neg hw'.2.1]
            rw [eT]
            have m : ∀ (i j : Int), 0 ≤ i → i < 4 → op2 .mul (.int i) (.int j) = .ok (.int (i * j)) := fun i j h1 h2 => o2_mul (mulOk_l (by omega) (by omega))
            have m1 := m 1 (ifB (decide (w ∈ words1))) (by omega) (by omega)
            have m2 := m 2 (ifB (decide (w ∈ words2))) (by omega) (by omega)
            have m3 := m 3 (ifB (w == w_if)) (by omega) (by omega)
            refine fin_of ((seq_if_f g1 rfl rfl).trans ((seq_asg (by simp only [evalSs, evalS, evalE, evalEs, evalIT, Res.bind_ok, Res.bind_bad, Res.bind_exc, Res.tame_ok, Fl.go_next, Fl.go_ret, Fl.fin_next, Fl.fin_ret, slot_some, List.getElem?_cons_zero, List.getElem?_cons_succ, List.set_cons_zero, List.set_cons_succ, put_nm, put_tu, puts_nil, puts_cons, chainK_t, chainK_f, truth_bool, truth_none, truth_int, truth_list, truth_tuple, truth_str, o2_add_i, o2_sub_i, o2_lt_i, o2_le_i, o2_gt_i, o2_ge_i, o2_is_n, o2_is_b, o2_isnot_n, o2_isnot_b, o2_eq_i, o2_eq_s, o2_eq_ns, o2_eq_b, o2_ne_b, o2_idx_t0, o2_idx_t1, o1_len_scr, o1_len_t, o1_len_l, o1_len_s, o1_not_b, o1_tuple_l, o1_list_t, o1_list_l, o1_rev_t, o1_neg_i, o1_int_b, isi_s, isi_i, isi_b, isi_n, isi_t, isi_l, isTy, isNone_n, isNone_b, isNone_i, isNone_s, isNone_t, isNone_l, isBool_b, Bool.not_true, Bool.not_false, eq_self, if_true, if_false, Bool.false_eq_true, reduceIte, beq_self_eq_true] <;> rfl)).trans ((seq_if_f (by simp only [evalSs, evalS, evalE, evalEs, evalIT, Res.bind_ok, Res.bind_bad, Res.bind_exc, Res.tame_ok, Fl.go_next, Fl.go_ret, Fl.fin_next, Fl.fin_ret, slot_some, List.getElem?_cons_zero, List.getElem?_cons_succ, List.set_cons_zero, List.set_cons_succ, put_nm, put_tu, puts_nil, puts_cons, chainK_t, chainK_f, truth_bool, truth_none, truth_int, truth_list, truth_tuple, truth_str, o2_add_i, o2_sub_i, o2_lt_i, o2_le_i, o2_gt_i, o2_ge_i, o2_is_n, o2_is_b, o2_isnot_n, o2_isnot_b, o2_eq_i, o2_eq_s, o2_eq_ns, o2_eq_b, o2_ne_b, o2_idx_t0, o2_idx_t1, o1_len_scr, o1_len_t, o1_len_l, o1_len_s, o1_not_b, o1_tuple_l, o1_list_t, o1_list_l, o1_rev_t, o1_neg_i, o1_int_b, isi_s, isi_i, isi_b, isi_n, isi_t, isi_l, isTy, isNone_n, isNone_b, isNone_i, isNone_s, isNone_t, isNone_l, isBool_b, Bool.not_true, Bool.not_false, eq_self, if_true, if_false, Bool.false_eq_true, reduceIte, beq_self_eq_true, in_leaf] <;> rfl) (by rw [decide_eq_false hw] <;> rfl) rfl).trans ((seq_asg (d := .int (manyOf w)) (by simp only [evalSs, evalS, evalE, evalEs, evalIT, Res.bind_ok, Res.bind_bad, Res.bind_exc, Res.tame_ok, Fl.go_next, Fl.go_ret, Fl.fin_next, Fl.fin_ret, slot_some, List.getElem?_cons_zero, List.getElem?_cons_succ, List.set_cons_zero, List.set_cons_succ, put_nm, put_tu, puts_nil, puts_cons, chainK_t, chainK_f, truth_bool, truth_none, truth_int, truth_list, truth_tuple, truth_str, o2_add_i, o2_sub_i, o2_lt_i, o2_le_i, o2_gt_i, o2_ge_i, o2_is_n, o2_is_b, o2_isnot_n, o2_isnot_b, o2_eq_i, o2_eq_s, o2_eq_ns, o2_eq_b, o2_ne_b, o2_idx_t0, o2_idx_t1, o1_len_scr, o1_len_t, o1_len_l, o1_len_s, o1_not_b, o1_tuple_l, o1_list_t, o1_list_l, o1_rev_t, o1_neg_i, o1_int_b, isi_s, isi_i, isi_b, isi_n, isi_t, isi_l, isTy, isNone_n, isNone_b, isNone_i, isNone_s, isNone_t, isNone_l, isBool_b, Bool.not_true, Bool.not_false, eq_self, if_true, if_false, Bool.false_eq_true, reduceIte, beq_self_eq_true, in_one, in_two, int_ifB, m1, m2, m3] <;> rfl)).trans (seq_ret ?_)))))
            have ll : (((PyData.str w :: b :: r).length : Nat) : Int) = ((b :: r).length : Int) + 1 := by simp only [List.length_cons]; push_cast; omega
            have lb : (((b :: r).length : Int) + 1 == manyOf w + 1) = (((b :: r).length : Int) == manyOf w) := by
              rw [Bool.eq_iff_iff, beq_iff_eq, beq_iff_eq]; omega
            by_cases q0 : 0 < manyOf w
            · by_cases q1 : ((b :: r).length : Int) = manyOf w
              · have q1' : (((b :: r).length : Int) == manyOf w) = true := by rw [beq_iff_eq]; exact q1
                have hc : evalE ρ c_is_sum_in_0 [some (.tuple (.str w :: b :: r)), some (.int dp), some (.str w), some (.int (manyOf w)), none] = .ok (.list ((b :: r).map fun d => .bool (isSum n d))) := by
                  unfold c_is_sum_in_0
                  refine comp_nm (by simp only [evalSs, evalS, evalE, evalEs, evalIT, Res.bind_ok, Res.bind_bad, Res.bind_exc, Res.tame_ok, Fl.go_next, Fl.go_ret, Fl.fin_next, Fl.fin_ret, slot_some, List.getElem?_cons_zero, List.getElem?_cons_succ, List.set_cons_zero, List.set_cons_succ, put_nm, put_tu, puts_nil, puts_cons, chainK_t, chainK_f, truth_bool, truth_none, truth_int, truth_list, truth_tuple, truth_str, o2_add_i, o2_sub_i, o2_lt_i, o2_le_i, o2_gt_i, o2_ge_i, o2_is_n, o2_is_b, o2_isnot_n, o2_isnot_b, o2_eq_i, o2_eq_s, o2_eq_ns, o2_eq_b, o2_ne_b, o2_idx_t0, o2_idx_t1, o1_len_scr, o1_len_t, o1_len_l, o1_len_s, o1_not_b, o1_tuple_l, o1_list_t, o1_list_l, o1_rev_t, o1_neg_i, o1_int_b, isi_s, isi_i, isi_b, isi_n, isi_t, isi_l, isTy, isNone_n, isNone_b, isNone_i, isNone_s, isNone_t, isNone_l, isBool_b, Bool.not_true, Bool.not_false, eq_self, if_true, if_false, Bool.false_eq_true, reduceIte, beq_self_eq_true, cut_1, itemsOf]) fun d hd => ?_
                  have nd := noDicts_mem (ds := b :: r) (by simp only [noDicts, h.2.1, h.2.2, Bool.and_self]) hd
                  simp only [evalSs, evalS, evalE, evalEs, evalIT, Res.bind_ok, Res.bind_bad, Res.bind_exc, Res.tame_ok, Fl.go_next, Fl.go_ret, Fl.fin_next, Fl.fin_ret, slot_some, List.getElem?_cons_zero, List.getElem?_cons_succ, List.set_cons_zero, List.set_cons_succ, put_nm, put_tu, puts_nil, puts_cons, chainK_t, chainK_f, truth_bool, truth_none, truth_int, truth_list, truth_tuple, truth_str, o2_add_i, o2_sub_i, o2_lt_i, o2_le_i, o2_gt_i, o2_ge_i, o2_is_n, o2_is_b, o2_isnot_n, o2_isnot_b, o2_eq_i, o2_eq_s, o2_eq_ns, o2_eq_b, o2_ne_b, o2_idx_t0, o2_idx_t1, o1_len_scr, o1_len_t, o1_len_l, o1_len_s, o1_not_b, o1_tuple_l, o1_list_t, o1_list_l, o1_rev_t, o1_neg_i, o1_int_b, isi_s, isi_i, isi_b, isi_n, isi_t, isi_l, isTy, isNone_n, isNone_b, isNone_i, isNone_s, isNone_t, isNone_l, isBool_b, Bool.not_true, Bool.not_false, eq_self, if_true, if_false, Bool.false_eq_true, reduceIte, beq_self_eq_true, ih d nd]
                simp only [evalSs, evalS, evalE, evalEs, evalIT, Res.bind_ok, Res.bind_bad, Res.bind_exc, Res.tame_ok, Fl.go_next, Fl.go_ret, Fl.fin_next, Fl.fin_ret, slot_some, List.getElem?_cons_zero, List.getElem?_cons_succ, List.set_cons_zero, List.set_cons_succ, put_nm, put_tu, puts_nil, puts_cons, chainK_t, chainK_f, truth_bool, truth_none, truth_int, truth_list, truth_tuple, truth_str, o2_add_i, o2_sub_i, o2_lt_i, o2_le_i, o2_gt_i, o2_ge_i, o2_is_n, o2_is_b, o2_isnot_n, o2_isnot_b, o2_eq_i, o2_eq_s, o2_eq_ns, o2_eq_b, o2_ne_b, o2_idx_t0, o2_idx_t1, o1_len_scr, o1_len_t, o1_len_l, o1_len_s, o1_not_b, o1_tuple_l, o1_list_t, o1_list_l, o1_rev_t, o1_neg_i, o1_int_b, isi_s, isi_i, isi_b, isi_n, isi_t, isi_l, isTy, isNone_n, isNone_b, isNone_i, isNone_s, isNone_t, isNone_l, isBool_b, Bool.not_true, Bool.not_false, eq_self, if_true, if_false, Bool.false_eq_true, reduceIte, beq_self_eq_true, decide_eq_true q0, ll, lb, q1', hc, o1_all, Bool.true_and]
              · have q1' : (((b :: r).length : Int) == manyOf w) = false := beq_eq_false_iff_ne.mpr q1
                simp only [evalSs, evalS, evalE, evalEs, evalIT, Res.bind_ok, Res.bind_bad, Res.bind_exc, Res.tame_ok, Fl.go_next, Fl.go_ret, Fl.fin_next, Fl.fin_ret, slot_some, List.getElem?_cons_zero, List.getElem?_cons_succ, List.set_cons_zero, List.set_cons_succ, put_nm, put_tu, puts_nil, puts_cons, chainK_t, chainK_f, truth_bool, truth_none, truth_int, truth_list, truth_tuple, truth_str, o2_add_i, o2_sub_i, o2_lt_i, o2_le_i, o2_gt_i, o2_ge_i, o2_is_n, o2_is_b, o2_isnot_n, o2_isnot_b, o2_eq_i, o2_eq_s, o2_eq_ns, o2_eq_b, o2_ne_b, o2_idx_t0, o2_idx_t1, o1_len_scr, o1_len_t, o1_len_l, o1_len_s, o1_not_b, o1_tuple_l, o1_list_t, o1_list_l, o1_rev_t, o1_neg_i, o1_int_b, isi_s, isi_i, isi_b, isi_n, isi_t, isi_l, isTy, isNone_n, isNone_b, isNone_i, isNone_s, isNone_t, isNone_l, isBool_b, Bool.not_true, Bool.not_false, eq_self, if_true, if_false, Bool.false_eq_true, reduceIte, beq_self_eq_true, decide_eq_true q0, ll, lb, q1', Bool.and_false, Bool.false_and]
            · simp only [evalSs, evalS, evalE, evalEs, evalIT, Res.bind_ok, Res.bind_bad, Res.bind_exc, Res.tame_ok, Fl.go_next, Fl.go_ret, Fl.fin_next, Fl.fin_ret, slot_some, List.getElem?_cons_zero, List.getElem?_cons_succ, List.set_cons_zero, List.set_cons_succ, put_nm, put_tu, puts_nil, puts_cons, chainK_t, chainK_f, truth_bool, truth_none, truth_int, truth_list, truth_tuple, truth_str, o2_add_i, o2_sub_i, o2_lt_i, o2_le_i, o2_gt_i, o2_ge_i, o2_is_n, o2_is_b, o2_isnot_n, o2_isnot_b, o2_eq_i, o2_eq_s, o2_eq_ns, o2_eq_b, o2_ne_b, o2_idx_t0, o2_idx_t1, o1_len_scr, o1_len_t, o1_len_l, o1_len_s, o1_not_b, o1_tuple_l, o1_list_t, o1_list_l, o1_rev_t, o1_neg_i, o1_int_b, isi_s, isi_i, isi_b, isi_n, isi_t, isi_l, isTy, isNone_n, isNone_b, isNone_i, isNone_s, isNone_t, isNone_l, isBool_b, Bool.not_true, Bool.not_false, eq_self, if_true, if_false, Bool.false_eq_true, reduceIte, beq_self_eq_true, decide_eq_false q0, Bool.false_and]
        | dict _ => simp [noDict] at h
        | _ => exact fin_of (seq_if_t (d := .bool true) (by simp only [evalSs, evalS, evalE, evalEs, evalIT, Res.bind_ok, Res.bind_bad, Res.bind_exc, Res.tame_ok, Fl.go_next, Fl.go_ret, Fl.fin_next, Fl.fin_ret, slot_some, List.getElem?_cons_zero, List.getElem?_cons_succ, List.set_cons_zero, List.set_cons_succ, put_nm, put_tu, puts_nil, puts_cons, chainK_t, chainK_f, truth_bool, truth_none, truth_int, truth_list, truth_tuple, truth_str, o2_add_i, o2_sub_i, o2_lt_i, o2_le_i, o2_gt_i, o2_ge_i, o2_is_n, o2_is_b, o2_isnot_n, o2_isnot_b, o2_eq_i, o2_eq_s, o2_eq_ns, o2_eq_b, o2_ne_b, o2_idx_t0, o2_idx_t1, o1_len_scr, o1_len_t, o1_len_l, o1_len_s, o1_not_b, o1_tuple_l, o1_list_t, o1_list_l, o1_rev_t, o1_neg_i, o1_int_b, isi_s, isi_i, isi_b, isi_n, isi_t, isi_l, isTy, isNone_n, isNone_b, isNone_i, isNone_s, isNone_t, isNone_l, isBool_b, Bool.not_true, Bool.not_false, eq_self, if_true, if_false, Bool.false_eq_true, reduceIte, beq_self_eq_true, z, len_lt2]) rfl (seq_ret (by simp only [evalSs, evalS, evalE, evalEs, evalIT, Res.bind_ok, Res.bind_bad, Res.bind_exc, Res.tame_ok, Fl.go_next, Fl.go_ret, Fl.fin_next, Fl.fin_ret, slot_some, List.getElem?_cons_zero, List.getElem?_cons_succ, List.set_cons_zero, List.set_cons_succ, put_nm, put_tu, puts_nil, puts_cons, chainK_t, chainK_f, truth_bool, truth_none, truth_int, truth_list, truth_tuple, truth_str, o2_add_i, o2_sub_i, o2_lt_i, o2_le_i, o2_gt_i, o2_ge_i, o2_is_n, o2_is_b, o2_isnot_n, o2_isnot_b, o2_eq_i, o2_eq_s, o2_eq_ns, o2_eq_b, o2_ne_b, o2_idx_t0, o2_idx_t1, o1_len_scr, o1_len_t, o1_len_l, o1_len_s, o1_not_b, o1_tuple_l, o1_list_t, o1_list_l, o1_rev_t, o1_neg_i, o1_int_b, isi_s, isi_i, isi_b, isi_n, isi_t, isi_l, isTy, isNone_n, isNone_b, isNone_i, isNone_s, isNone_t, isNone_l, isBool_b, Bool.not_true, Bool.not_false, eq_self, if_true, if_false, Bool.false_eq_true, reduceIte, beq_self_eq_true] <;> rfl)))
    | dict _ => simp [noDict] at h
    | _ => exact fin_of (seq_if_t (d := .bool true) (by simp only [evalSs, evalS, evalE, evalEs, evalIT, Res.bind_ok, Res.bind_bad, Res.bind_exc, Res.tame_ok, Fl.go_next, Fl.go_ret, Fl.fin_next, Fl.fin_ret, slot_some, List.getElem?_cons_zero, List.getElem?_cons_succ, List.set_cons_zero, List.set_cons_succ, put_nm, put_tu, puts_nil, puts_cons, chainK_t, chainK_f, truth_bool, truth_none, truth_int, truth_list, truth_tuple, truth_str, o2_add_i, o2_sub_i, o2_lt_i, o2_le_i, o2_gt_i, o2_ge_i, o2_is_n, o2_is_b, o2_isnot_n, o2_isnot_b, o2_eq_i, o2_eq_s, o2_eq_ns, o2_eq_b, o2_ne_b, o2_idx_t0, o2_idx_t1, o1_len_scr, o1_len_t, o1_len_l, o1_len_s, o1_not_b, o1_tuple_l, o1_list_t, o1_list_l, o1_rev_t, o1_neg_i, o1_int_b, isi_s, isi_i, isi_b, isi_n, isi_t, isi_l, isTy, isNone_n, isNone_b, isNone_i, isNone_s, isNone_t, isNone_l, isBool_b, Bool.not_true, Bool.not_false, eq_self, if_true, if_false, Bool.false_eq_true, reduceIte, beq_self_eq_true, z]) rfl (seq_ret (by simp only [evalSs, evalS, evalE, evalEs, evalIT, Res.bind_ok, Res.bind_bad, Res.bind_exc, Res.tame_ok, Fl.go_next, Fl.go_ret, Fl.fin_next, Fl.fin_ret, slot_some, List.getElem?_cons_zero, List.getElem?_cons_succ, List.set_cons_zero, List.set_cons_succ, put_nm, put_tu, puts_nil, puts_cons, chainK_t, chainK_f, truth_bool, truth_none, truth_int, truth_list, truth_tuple, truth_str, o2_add_i, o2_sub_i, o2_lt_i, o2_le_i, o2_gt_i, o2_ge_i, o2_is_n, o2_is_b, o2_isnot_n, o2_isnot_b, o2_eq_i, o2_eq_s, o2_eq_ns, o2_eq_b, o2_ne_b, o2_idx_t0, o2_idx_t1, o1_len_scr, o1_len_t, o1_len_l, o1_len_s, o1_not_b, o1_tuple_l, o1_list_t, o1_list_l, o1_rev_t, o1_neg_i, o1_int_b, isi_s, isi_i, isi_b, isi_n, isi_t, isi_l, isTy, isNone_n, isNone_b, isNone_i, isNone_s, isNone_t, isNone_l, isBool_b, Bool.not_true, Bool.not_false, eq_self, if_true, if_false, Bool.false_eq_true, reduceIte, beq_self_eq_true] <;> rfl)))
theorem is_sum_eq (k : Nat) (d : D) (h : noDict d = true) : callF defs (k + 8) F.is_sum [d] = .ok (.bool (isSum 5 d)) := by
  rw [u_is_sum]
  have := is_sum_in_eq 5 k d 5 rfl h
  rw [show 5 + k + 2 = k + 7 by omega] at this
  simp only [evalSs, evalS, evalE, evalEs, evalIT, Res.bind_ok, Res.bind_bad, Res.bind_exc, Res.tame_ok, Fl.go_next, Fl.go_ret, Fl.fin_next, Fl.fin_ret, slot_some, List.getElem?_cons_zero, List.getElem?_cons_succ, List.set_cons_zero, List.set_cons_succ, put_nm, put_tu, puts_nil, puts_cons, chainK_t, chainK_f, truth_bool, truth_none, truth_int, truth_list, truth_tuple, truth_str, o2_add_i, o2_sub_i, o2_lt_i, o2_le_i, o2_gt_i, o2_ge_i, o2_is_n, o2_is_b, o2_isnot_n, o2_isnot_b, o2_eq_i, o2_eq_s, o2_eq_ns, o2_eq_b, o2_ne_b, o2_idx_t0, o2_idx_t1, o1_len_scr, o1_len_t, o1_len_l, o1_len_s, o1_not_b, o1_tuple_l, o1_list_t, o1_list_l, o1_rev_t, o1_neg_i, o1_int_b, isi_s, isi_i, isi_b, isi_n, isi_t, isi_l, isTy, isNone_n, isNone_b, isNone_i, isNone_s, isNone_t, isNone_l, isBool_b, Bool.not_true, Bool.not_false, eq_self, if_true, if_false, Bool.false_eq_true, reduceIte, beq_self_eq_true, f_is_sum, this]
/-! the law's own walk -/
def manyKvs : List (D × D) := [(.str w_size, .int 1), (.str w_not, .int 1), (.str w_lacks, .int 1), (.str w_if, .int 3), (.str w_plus, .int 2), (.str w_less, .int 2), (.str w_times, .int 2), (.str w_glue, .int 2), (.str w_below, .int 2), (.str w_same, .int 2), (.str w_and, .int 2), (.str w_or, .int 2), (.str w_else, .int 2)]
def words13 : List Str := [w_size, w_not, w_lacks, w_if, w_plus, w_less, w_times, w_glue, w_below, w_same, w_and, w_or, w_else]
theorem look_many (w : Str) : lookD w manyKvs = if 0 < manyOf w then some (.int (manyOf w)) else none := by
  by_cases h : w ∈ words13
  · simp only [words13, List.mem_cons, List.not_mem_nil, or_false] at h
    rcases h with rfl | rfl | rfl | rfl | rfl | rfl | rfl | rfl | rfl | rfl | rfl | rfl | rfl <;> kernel_rfl
  · have h0 : manyOf w = 0 := by
      unfold manyOf
      have a1 : w ∉ words1 := fun z => h (by simp only [words1, words13, List.mem_cons, List.not_mem_nil, or_false] at z ⊢; rcases z with z | z | z <;> simp [z])
      have a2 : w ∉ words2 := fun z => h (by simp only [words2, words13, List.mem_cons, List.not_mem_nil, or_false] at z ⊢; rcases z with z | z | z | z | z | z | z | z | z <;> simp [z])
      have a3 : (w == w_if) = false := beq_eq_false_iff_ne.mpr fun z => h (by simp [words13, z])
      rw [decide_eq_false a1, decide_eq_false a2, a3] <;> rfl
    rw [h0, if_neg (by omega)]
    simp only [words13, List.mem_cons, List.not_mem_nil, or_false, not_or] at h
    obtain ⟨h1, h2, h3, h4, h5, h6, h7, h8, h9, h10, h11, h12, h13⟩ := h
    simp only [manyKvs, lookD, Ne.symm h1, Ne.symm h2, Ne.symm h3, Ne.symm h4, Ne.symm h5, Ne.symm h6, Ne.symm h7, Ne.symm h8, Ne.symm h9, Ne.symm h10, Ne.symm h11, Ne.symm h12, Ne.symm h13, if_false]
theorem many_made (ρ : Nat → List D → Res D) (a b c d : Option D) (ss : ISs) : evalSs ρ (.cons (.mset 2 (.dsp [w_size, w_not, w_lacks, w_if] (.cons (.int 1) (.cons (.int 1) (.cons (.int 1) (.cons (.int 3) .nil)))))) (.cons l_law_is_sum_1 ss)) [a, b, none, none, c, d, none] = evalSs ρ ss [a, b, some (.dict manyKvs), some (.str w_else), c, d, none] := by
  kernel_rfl
theorem law_sum_told : ∀ (n k : Nat) (d : D) (dp : Int), dp = n → noDict d = true → callF defs (n + k + 2) F.law_is_sum [d, .int dp] = .ok (.bool (isSum n d))
  | n, k, d, dp, e, h => by
    rw [u_law_is_sum]
    have ih : ∀ m : Nat, n = m + 1 → ∀ d : D, noDict d = true → callF defs (n + k + 1) F.law_is_sum [d, .int (dp - 1)] = .ok (.bool (isSum m d)) := fun m hm d hd => by
      have := law_sum_told m k d (dp - 1) (by omega) hd
      rw [show n + k + 1 = m + k + 2 by omega]
      exact this
    have hN : ∀ d : D, noDict d = true → callF defs (n + k + 1) F.law_is_name [d] = .ok (.bool (isName d)) := fun d hd => law_name_eq (n + k) d hd
    generalize callF defs (n + k + 1) = ρ at ih hN
    cases d with
    | tuple ds =>
      match ds, h with
      | [], _ =>
        have : isSum n (.tuple []) = false := by cases n <;> rfl
        rw [this]
        exact fin_of (seq_if_t (d := .bool true) (by simp only [evalSs, evalS, evalE, evalEs, evalIT, Res.bind_ok, Res.bind_bad, Res.bind_exc, Res.tame_ok, Fl.go_next, Fl.go_ret, Fl.fin_next, Fl.fin_ret, slot_some, List.getElem?_cons_zero, List.getElem?_cons_succ, List.set_cons_zero, List.set_cons_succ, put_nm, put_tu, puts_nil, puts_cons, chainK_t, chainK_f, truth_bool, truth_none, truth_int, truth_list, truth_tuple, truth_str, o2_add_i, o2_sub_i, o2_lt_i, o2_le_i, o2_gt_i, o2_ge_i, o2_is_n, o2_is_b, o2_isnot_n, o2_isnot_b, o2_eq_i, o2_eq_s, o2_eq_ns, o2_eq_b, o2_ne_b, o2_idx_t0, o2_idx_t1, o1_len_scr, o1_len_t, o1_len_l, o1_len_s, o1_not_b, o1_tuple_l, o1_list_t, o1_list_l, o1_rev_t, o1_neg_i, o1_int_b, isi_s, isi_i, isi_b, isi_n, isi_t, isi_l, isTy, isNone_n, isNone_b, isNone_i, isNone_s, isNone_t, isNone_l, isBool_b, Bool.not_true, Bool.not_false, eq_self, if_true, if_false, Bool.false_eq_true, reduceIte, beq_self_eq_true, len_0lt2]) rfl (seq_ret (by simp only [evalSs, evalS, evalE, evalEs, evalIT, Res.bind_ok, Res.bind_bad, Res.bind_exc, Res.tame_ok, Fl.go_next, Fl.go_ret, Fl.fin_next, Fl.fin_ret, slot_some, List.getElem?_cons_zero, List.getElem?_cons_succ, List.set_cons_zero, List.set_cons_succ, put_nm, put_tu, puts_nil, puts_cons, chainK_t, chainK_f, truth_bool, truth_none, truth_int, truth_list, truth_tuple, truth_str, o2_add_i, o2_sub_i, o2_lt_i, o2_le_i, o2_gt_i, o2_ge_i, o2_is_n, o2_is_b, o2_isnot_n, o2_isnot_b, o2_eq_i, o2_eq_s, o2_eq_ns, o2_eq_b, o2_ne_b, o2_idx_t0, o2_idx_t1, o1_len_scr, o1_len_t, o1_len_l, o1_len_s, o1_not_b, o1_tuple_l, o1_list_t, o1_list_l, o1_rev_t, o1_neg_i, o1_int_b, isi_s, isi_i, isi_b, isi_n, isi_t, isi_l, isTy, isNone_n, isNone_b, isNone_i, isNone_s, isNone_t, isNone_l, isBool_b, Bool.not_true, Bool.not_false, eq_self, if_true, if_false, Bool.false_eq_true, reduceIte, beq_self_eq_true] <;> rfl)))
      | [a], _ =>
        have : isSum n (.tuple [a]) = false := by
          cases n with
          | zero => rfl
          | succ n =>
            cases a with
            | str w => exact manyOf_lt w [] _ rfl
            | _ => rfl
        rw [this]
        exact fin_of (seq_if_t (d := .bool true) (by simp only [evalSs, evalS, evalE, evalEs, evalIT, Res.bind_ok, Res.bind_bad, Res.bind_exc, Res.tame_ok, Fl.go_next, Fl.go_ret, Fl.fin_next, Fl.fin_ret, slot_some, List.getElem?_cons_zero, List.getElem?_cons_succ, List.set_cons_zero, List.set_cons_succ, put_nm, put_tu, puts_nil, puts_cons, chainK_t, chainK_f, truth_bool, truth_none, truth_int, truth_list, truth_tuple, truth_str, o2_add_i, o2_sub_i, o2_lt_i, o2_le_i, o2_gt_i, o2_ge_i, o2_is_n, o2_is_b, o2_isnot_n, o2_isnot_b, o2_eq_i, o2_eq_s, o2_eq_ns, o2_eq_b, o2_ne_b, o2_idx_t0, o2_idx_t1, o1_len_scr, o1_len_t, o1_len_l, o1_len_s, o1_not_b, o1_tuple_l, o1_list_t, o1_list_l, o1_rev_t, o1_neg_i, o1_int_b, isi_s, isi_i, isi_b, isi_n, isi_t, isi_l, isTy, isNone_n, isNone_b, isNone_i, isNone_s, isNone_t, isNone_l, isBool_b, Bool.not_true, Bool.not_false, eq_self, if_true, if_false, Bool.false_eq_true, reduceIte, beq_self_eq_true, len_1lt2]) rfl (seq_ret (by simp only [evalSs, evalS, evalE, evalEs, evalIT, Res.bind_ok, Res.bind_bad, Res.bind_exc, Res.tame_ok, Fl.go_next, Fl.go_ret, Fl.fin_next, Fl.fin_ret, slot_some, List.getElem?_cons_zero, List.getElem?_cons_succ, List.set_cons_zero, List.set_cons_succ, put_nm, put_tu, puts_nil, puts_cons, chainK_t, chainK_f, truth_bool, truth_none, truth_int, truth_list, truth_tuple, truth_str, o2_add_i, o2_sub_i, o2_lt_i, o2_le_i, o2_gt_i, o2_ge_i, o2_is_n, o2_is_b, o2_isnot_n, o2_isnot_b, o2_eq_i, o2_eq_s, o2_eq_ns, o2_eq_b, o2_ne_b, o2_idx_t0, o2_idx_t1, o1_len_scr, o1_len_t, o1_len_l, o1_len_s, o1_not_b, o1_tuple_l, o1_list_t, o1_list_l, o1_rev_t, o1_neg_i, o1_int_b, isi_s, isi_i, isi_b, isi_n, isi_t, isi_l, isTy, isNone_n, isNone_b, isNone_i, isNone_s, isNone_t, isNone_l, isBool_b, Bool.not_true, Bool.not_false, eq_self, if_true, if_false, Bool.false_eq_true, reduceIte, beq_self_eq_true] <;> rfl)))
      | a :: b :: r, h =>
        simp only [noDict, noDicts, Bool.and_eq_true] at h
        cases n with
        | zero =>
          have z : (dp == 0) = true := by rw [beq_iff_eq]; omega
          exact fin_of (seq_if_t (d := .bool true) (by simp only [evalSs, evalS, evalE, evalEs, evalIT, Res.bind_ok, Res.bind_bad, Res.bind_exc, Res.tame_ok, Fl.go_next, Fl.go_ret, Fl.fin_next, Fl.fin_ret, slot_some, List.getElem?_cons_zero, List.getElem?_cons_succ, List.set_cons_zero, List.set_cons_succ, put_nm, put_tu, puts_nil, puts_cons, chainK_t, chainK_f, truth_bool, truth_none, truth_int, truth_list, truth_tuple, truth_str, o2_add_i, o2_sub_i, o2_lt_i, o2_le_i, o2_gt_i, o2_ge_i, o2_is_n, o2_is_b, o2_isnot_n, o2_isnot_b, o2_eq_i, o2_eq_s, o2_eq_ns, o2_eq_b, o2_ne_b, o2_idx_t0, o2_idx_t1, o1_len_scr, o1_len_t, o1_len_l, o1_len_s, o1_not_b, o1_tuple_l, o1_list_t, o1_list_l, o1_rev_t, o1_neg_i, o1_int_b, isi_s, isi_i, isi_b, isi_n, isi_t, isi_l, isTy, isNone_n, isNone_b, isNone_i, isNone_s, isNone_t, isNone_l, isBool_b, Bool.not_true, Bool.not_false, eq_self, if_true, if_false, Bool.false_eq_true, reduceIte, beq_self_eq_true, len_lt2, z]) rfl (seq_ret (by simp only [evalSs, evalS, evalE, evalEs, evalIT, Res.bind_ok, Res.bind_bad, Res.bind_exc, Res.tame_ok, Fl.go_next, Fl.go_ret, Fl.fin_next, Fl.fin_ret, slot_some, List.getElem?_cons_zero, List.getElem?_cons_succ, List.set_cons_zero, List.set_cons_succ, put_nm, put_tu, puts_nil, puts_cons, chainK_t, chainK_f, truth_bool, truth_none, truth_int, truth_list, truth_tuple, truth_str, o2_add_i, o2_sub_i, o2_lt_i, o2_le_i, o2_gt_i, o2_ge_i, o2_is_n, o2_is_b, o2_isnot_n, o2_isnot_b, o2_eq_i, o2_eq_s, o2_eq_ns, o2_eq_b, o2_ne_b, o2_idx_t0, o2_idx_t1, o1_len_scr, o1_len_t, o1_len_l, o1_len_s, o1_not_b, o1_tuple_l, o1_list_t, o1_list_l, o1_rev_t, o1_neg_i, o1_int_b, isi_s, isi_i, isi_b, isi_n, isi_t, isi_l, isTy, isNone_n, isNone_b, isNone_i, isNone_s, isNone_t, isNone_l, isBool_b, Bool.not_true, Bool.not_false, eq_self, if_true, if_false, Bool.false_eq_true, reduceIte, beq_self_eq_true] <;> rfl)))
        | succ n =>
          have z : (dp == 0) = false := beq_eq_false_iff_ne.mpr (by omega)
          cases a with
          | str w =>
            show (evalSs ρ _ _).bind Fl.fin = .ok (.bool (isSumT (isSum n) w (b :: r)))
            refine fin_of ((seq_if_f (d := .bool false) (by simp only [evalSs, evalS, evalE, evalEs, evalIT, Res.bind_ok, Res.bind_bad, Res.bind_exc, Res.tame_ok, Fl.go_next, Fl.go_ret, Fl.fin_next, Fl.fin_ret, slot_some, List.getElem?_cons_zero, List.getElem?_cons_succ, List.set_cons_zero, List.set_cons_succ, put_nm, put_tu, puts_nil, puts_cons, chainK_t, chainK_f, truth_bool, truth_none, truth_int, truth_list, truth_tuple, truth_str, o2_add_i, o2_sub_i, o2_lt_i, o2_le_i, o2_gt_i, o2_ge_i, o2_is_n, o2_is_b, o2_isnot_n, o2_isnot_b, o2_eq_i, o2_eq_s, o2_eq_ns, o2_eq_b, o2_ne_b, o2_idx_t0, o2_idx_t1, o1_len_scr, o1_len_t, o1_len_l, o1_len_s, o1_not_b, o1_tuple_l, o1_list_t, o1_list_l, o1_rev_t, o1_neg_i, o1_int_b, isi_s, isi_i, isi_b, isi_n, isi_t, isi_l, isTy, isNone_n, isNone_b, isNone_i, isNone_s, isNone_t, isNone_l, isBool_b, Bool.not_true, Bool.not_false, eq_self, if_true, if_false, Bool.false_eq_true, reduceIte, beq_self_eq_true, len_lt2, z]) rfl rfl).trans (seq_next (e := [some (.tuple (.str w :: b :: r)), some (.int dp), none, none, some (.str w), some (.tuple (b :: r)), none]) (by simp only [evalSs, evalS, evalE, evalEs, evalIT, Res.bind_ok, Res.bind_bad, Res.bind_exc, Res.tame_ok, Fl.go_next, Fl.go_ret, Fl.fin_next, Fl.fin_ret, slot_some, List.getElem?_cons_zero, List.getElem?_cons_succ, List.set_cons_zero, List.set_cons_succ, put_nm, put_tu, puts_nil, puts_cons, chainK_t, chainK_f, truth_bool, truth_none, truth_int, truth_list, truth_tuple, truth_str, o2_add_i, o2_sub_i, o2_lt_i, o2_le_i, o2_gt_i, o2_ge_i, o2_is_n, o2_is_b, o2_isnot_n, o2_isnot_b, o2_eq_i, o2_eq_s, o2_eq_ns, o2_eq_b, o2_ne_b, o2_idx_t0, o2_idx_t1, o1_len_scr, o1_len_t, o1_len_l, o1_len_s, o1_not_b, o1_tuple_l, o1_list_t, o1_list_l, o1_rev_t, o1_neg_i, o1_int_b, isi_s, isi_i, isi_b, isi_n, isi_t, isi_l, isTy, isNone_n, isNone_b, isNone_i, isNone_s, isNone_t, isNone_l, isBool_b, Bool.not_true, Bool.not_false, eq_self, if_true, if_false, Bool.false_eq_true, reduceIte, beq_self_eq_true, cut_1]) ?_))
            have len : (((b :: r).length : Nat) : Int) = (r.length : Int) + 1 := by simp only [List.length_cons]; push_cast; omega
            have hl : r = [] ∨ (r ≠ [] ∧ ((r.length : Int) + 1 == 1) = false ∧ (b :: r).length ≠ 1) := by
              cases r with
              | nil => exact .inl rfl
              | cons x y => exact .inr ⟨by simp, beq_eq_false_iff_ne.mpr (by simp only [List.length_cons]; push_cast; omega), by simp⟩
            by_cases hc : w = w_col
            · subst hc
              refine seq_if_t (d := .bool true) (by simp only [evalSs, evalS, evalE, evalEs, evalIT, Res.bind_ok, Res.bind_bad, Res.bind_exc, Res.tame_ok, Fl.go_next, Fl.go_ret, Fl.fin_next, Fl.fin_ret, slot_some, List.getElem?_cons_zero, List.getElem?_cons_succ, List.set_cons_zero, List.set_cons_succ, put_nm, put_tu, puts_nil, puts_cons, chainK_t, chainK_f, truth_bool, truth_none, truth_int, truth_list, truth_tuple, truth_str, o2_add_i, o2_sub_i, o2_lt_i, o2_le_i, o2_gt_i, o2_ge_i, o2_is_n, o2_is_b, o2_isnot_n, o2_isnot_b, o2_eq_i, o2_eq_s, o2_eq_ns, o2_eq_b, o2_ne_b, o2_idx_t0, o2_idx_t1, o1_len_scr, o1_len_t, o1_len_l, o1_len_s, o1_not_b, o1_tuple_l, o1_list_t, o1_list_l, o1_rev_t, o1_neg_i, o1_int_b, isi_s, isi_i, isi_b, isi_n, isi_t, isi_l, isTy, isNone_n, isNone_b, isNone_i, isNone_s, isNone_t, isNone_l, isBool_b, Bool.not_true, Bool.not_false, eq_self, if_true, if_false, Bool.false_eq_true, reduceIte, beq_self_eq_true]) rfl (seq_ret ?_)
              unfold isSumT
              rw [if_pos rfl]
              rcases hl with rfl | ⟨_, l1, l2⟩
              · simp only [evalSs, evalS, evalE, evalEs, evalIT, Res.bind_ok, Res.bind_bad, Res.bind_exc, Res.tame_ok, Fl.go_next, Fl.go_ret, Fl.fin_next, Fl.fin_ret, slot_some, List.getElem?_cons_zero, List.getElem?_cons_succ, List.set_cons_zero, List.set_cons_succ, put_nm, put_tu, puts_nil, puts_cons, chainK_t, chainK_f, truth_bool, truth_none, truth_int, truth_list, truth_tuple, truth_str, o2_add_i, o2_sub_i, o2_lt_i, o2_le_i, o2_gt_i, o2_ge_i, o2_is_n, o2_is_b, o2_isnot_n, o2_isnot_b, o2_eq_i, o2_eq_s, o2_eq_ns, o2_eq_b, o2_ne_b, o2_idx_t0, o2_idx_t1, o1_len_scr, o1_len_t, o1_len_l, o1_len_s, o1_not_b, o1_tuple_l, o1_list_t, o1_list_l, o1_rev_t, o1_neg_i, o1_int_b, isi_s, isi_i, isi_b, isi_n, isi_t, isi_l, isTy, isNone_n, isNone_b, isNone_i, isNone_s, isNone_t, isNone_l, isBool_b, Bool.not_true, Bool.not_false, eq_self, if_true, if_false, Bool.false_eq_true, reduceIte, beq_self_eq_true, List.length_cons, List.length_nil, hN b h.2.1] <;> rfl
              · rw [only_len l2]; simp only [evalSs, evalS, evalE, evalEs, evalIT, Res.bind_ok, Res.bind_bad, Res.bind_exc, Res.tame_ok, Fl.go_next, Fl.go_ret, Fl.fin_next, Fl.fin_ret, slot_some, List.getElem?_cons_zero, List.getElem?_cons_succ, List.set_cons_zero, List.set_cons_succ, put_nm, put_tu, puts_nil, puts_cons, chainK_t, chainK_f, truth_bool, truth_none, truth_int, truth_list, truth_tuple, truth_str, o2_add_i, o2_sub_i, o2_lt_i, o2_le_i, o2_gt_i, o2_ge_i, o2_is_n, o2_is_b, o2_isnot_n, o2_isnot_b, o2_eq_i, o2_eq_s, o2_eq_ns, o2_eq_b, o2_ne_b, o2_idx_t0, o2_idx_t1, o1_len_scr, o1_len_t, o1_len_l, o1_len_s, o1_not_b, o1_tuple_l, o1_list_t, o1_list_l, o1_rev_t, o1_neg_i, o1_int_b, isi_s, isi_i, isi_b, isi_n, isi_t, isi_l, isTy, isNone_n, isNone_b, isNone_i, isNone_s, isNone_t, isNone_l, isBool_b, Bool.not_true, Bool.not_false, eq_self, if_true, if_false, Bool.false_eq_true, reduceIte, beq_self_eq_true, len, l1]
            refine (seq_if_f (d := .bool false) (by simp only [evalSs, evalS, evalE, evalEs, evalIT, Res.bind_ok, Res.bind_bad, Res.bind_exc, Res.tame_ok, Fl.go_next, Fl.go_ret, Fl.fin_next, Fl.fin_ret, slot_some, List.getElem?_cons_zero, List.getElem?_cons_succ, List.set_cons_zero, List.set_cons_succ, put_nm, put_tu, puts_nil, puts_cons, chainK_t, chainK_f, truth_bool, truth_none, truth_int, truth_list, truth_tuple, truth_str, o2_add_i, o2_sub_i, o2_lt_i, o2_le_i, o2_gt_i, o2_ge_i, o2_is_n, o2_is_b, o2_isnot_n, o2_isnot_b, o2_eq_i, o2_eq_s, o2_eq_ns, o2_eq_b, o2_ne_b, o2_idx_t0, o2_idx_t1, o1_len_scr, o1_len_t, o1_len_l, o1_len_s, o1_not_b, o1_tuple_l, o1_list_t, o1_list_l, o1_rev_t, o1_neg_i, o1_int_b, isi_s, isi_i, isi_b, isi_n, isi_t, isi_l, isTy, isNone_n, isNone_b, isNone_i, isNone_s, isNone_t, isNone_l, isBool_b, Bool.not_true, Bool.not_false, eq_self, if_true, if_false, Bool.false_eq_true, reduceIte, beq_self_eq_true, beq_eq_false_iff_ne.mpr hc]) rfl rfl).trans ?_
            by_cases hv : w = w_value
            · subst hv
              refine seq_if_t (d := .bool true) (by simp only [evalSs, evalS, evalE, evalEs, evalIT, Res.bind_ok, Res.bind_bad, Res.bind_exc, Res.tame_ok, Fl.go_next, Fl.go_ret, Fl.fin_next, Fl.fin_ret, slot_some, List.getElem?_cons_zero, List.getElem?_cons_succ, List.set_cons_zero, List.set_cons_succ, put_nm, put_tu, puts_nil, puts_cons, chainK_t, chainK_f, truth_bool, truth_none, truth_int, truth_list, truth_tuple, truth_str, o2_add_i, o2_sub_i, o2_lt_i, o2_le_i, o2_gt_i, o2_ge_i, o2_is_n, o2_is_b, o2_isnot_n, o2_isnot_b, o2_eq_i, o2_eq_s, o2_eq_ns, o2_eq_b, o2_ne_b, o2_idx_t0, o2_idx_t1, o1_len_scr, o1_len_t, o1_len_l, o1_len_s, o1_not_b, o1_tuple_l, o1_list_t, o1_list_l, o1_rev_t, o1_neg_i, o1_int_b, isi_s, isi_i, isi_b, isi_n, isi_t, isi_l, isTy, isNone_n, isNone_b, isNone_i, isNone_s, isNone_t, isNone_l, isBool_b, Bool.not_true, Bool.not_false, eq_self, if_true, if_false, Bool.false_eq_true, reduceIte, beq_self_eq_true]) rfl (seq_ret ?_)
              unfold isSumT
              rw [if_neg hc, if_neg leaf_ne.2.2.1, if_pos rfl]
              rcases hl with rfl | ⟨_, l1, l2⟩
              · have : evalE ρ (.isi (.o2 .idx (.var 5) (.int 0)) .intstr) [some (.tuple [.str w_value, b]), some (.int dp), none, none, some (.str w_value), some (.tuple [b]), none] = .ok (.bool (sortS b).isSome) := by
                  cases b with
                  | dict _ => simp [noDict] at h
                  | _ => simp only [evalSs, evalS, evalE, evalEs, evalIT, Res.bind_ok, Res.bind_bad, Res.bind_exc, Res.tame_ok, Fl.go_next, Fl.go_ret, Fl.fin_next, Fl.fin_ret, slot_some, List.getElem?_cons_zero, List.getElem?_cons_succ, List.set_cons_zero, List.set_cons_succ, put_nm, put_tu, puts_nil, puts_cons, chainK_t, chainK_f, truth_bool, truth_none, truth_int, truth_list, truth_tuple, truth_str, o2_add_i, o2_sub_i, o2_lt_i, o2_le_i, o2_gt_i, o2_ge_i, o2_is_n, o2_is_b, o2_isnot_n, o2_isnot_b, o2_eq_i, o2_eq_s, o2_eq_ns, o2_eq_b, o2_ne_b, o2_idx_t0, o2_idx_t1, o1_len_scr, o1_len_t, o1_len_l, o1_len_s, o1_not_b, o1_tuple_l, o1_list_t, o1_list_l, o1_rev_t, o1_neg_i, o1_int_b, isi_s, isi_i, isi_b, isi_n, isi_t, isi_l, isTy, isNone_n, isNone_b, isNone_i, isNone_s, isNone_t, isNone_l, isBool_b, Bool.not_true, Bool.not_false, eq_self, if_true, if_false, Bool.false_eq_true, reduceIte, beq_self_eq_true, sortS] <;> rfl
                simp only [evalE, slot_some, bind_ok, List.getElem?_cons_zero, List.getElem?_cons_succ, o2_idx_t0] at this
                simp only [evalSs, evalS, evalE, evalEs, evalIT, Res.bind_ok, Res.bind_bad, Res.bind_exc, Res.tame_ok, Fl.go_next, Fl.go_ret, Fl.fin_next, Fl.fin_ret, slot_some, List.getElem?_cons_zero, List.getElem?_cons_succ, List.set_cons_zero, List.set_cons_succ, put_nm, put_tu, puts_nil, puts_cons, chainK_t, chainK_f, truth_bool, truth_none, truth_int, truth_list, truth_tuple, truth_str, o2_add_i, o2_sub_i, o2_lt_i, o2_le_i, o2_gt_i, o2_ge_i, o2_is_n, o2_is_b, o2_isnot_n, o2_isnot_b, o2_eq_i, o2_eq_s, o2_eq_ns, o2_eq_b, o2_ne_b, o2_idx_t0, o2_idx_t1, o1_len_scr, o1_len_t, o1_len_l, o1_len_s, o1_not_b, o1_tuple_l, o1_list_t, o1_list_l, o1_rev_t, o1_neg_i, o1_int_b, isi_s, isi_i, isi_b, isi_n, isi_t, isi_l, isTy, isNone_n, isNone_b, isNone_i, isNone_s, isNone_t, isNone_l, isBool_b, Bool.not_true, Bool.not_false, eq_self, if_true, if_false, Bool.false_eq_true, reduceIte, beq_self_eq_true, List.length_cons, List.length_nil, this] <;> rfl
              · rw [only_len l2]; simp only [evalSs, evalS, evalE, evalEs, evalIT, Res.bind_ok, Res.bind_bad, Res.bind_exc, Res.tame_ok, Fl.go_next, Fl.go_ret, Fl.fin_next, Fl.fin_ret, slot_some, List.getElem?_cons_zero, List.getElem?_cons_succ, List.set_cons_zero, List.set_cons_succ, put_nm, put_tu, puts_nil, puts_cons, chainK_t, chainK_f, truth_bool, truth_none, truth_int, truth_list, truth_tuple, truth_str, o2_add_i, o2_sub_i, o2_lt_i, o2_le_i, o2_gt_i, o2_ge_i, o2_is_n, o2_is_b, o2_isnot_n, o2_isnot_b, o2_eq_i, o2_eq_s, o2_eq_ns, o2_eq_b, o2_ne_b, o2_idx_t0, o2_idx_t1, o1_len_scr, o1_len_t, o1_len_l, o1_len_s, o1_not_b, o1_tuple_l, o1_list_t, o1_list_l, o1_rev_t, o1_neg_i, o1_int_b, isi_s, isi_i, isi_b, isi_n, isi_t, isi_l, isTy, isNone_n, isNone_b, isNone_i, isNone_s, isNone_t, isNone_l, isBool_b, Bool.not_true, Bool.not_false, eq_self, if_true, if_false, Bool.false_eq_true, reduceIte, beq_self_eq_true, len, l1]
            refine (seq_if_f (d := .bool false) (by simp only [evalSs, evalS, evalE, evalEs, evalIT, Res.bind_ok, Res.bind_bad, Res.bind_exc, Res.tame_ok, Fl.go_next, Fl.go_ret, Fl.fin_next, Fl.fin_ret, slot_some, List.getElem?_cons_zero, List.getElem?_cons_succ, List.set_cons_zero, List.set_cons_succ, put_nm, put_tu, puts_nil, puts_cons, chainK_t, chainK_f, truth_bool, truth_none, truth_int, truth_list, truth_tuple, truth_str, o2_add_i, o2_sub_i, o2_lt_i, o2_le_i, o2_gt_i, o2_ge_i, o2_is_n, o2_is_b, o2_isnot_n, o2_isnot_b, o2_eq_i, o2_eq_s, o2_eq_ns, o2_eq_b, o2_ne_b, o2_idx_t0, o2_idx_t1, o1_len_scr, o1_len_t, o1_len_l, o1_len_s, o1_not_b, o1_tuple_l, o1_list_t, o1_list_l, o1_rev_t, o1_neg_i, o1_int_b, isi_s, isi_i, isi_b, isi_n, isi_t, isi_l, isTy, isNone_n, isNone_b, isNone_i, isNone_s, isNone_t, isNone_l, isBool_b, Bool.not_true, Bool.not_false, eq_self, if_true, if_false, Bool.false_eq_true, reduceIte, beq_self_eq_true, beq_eq_false_iff_ne.mpr hv]) rfl rfl).trans ?_
            by_cases hg : w = w_gap
            · subst hg
              refine seq_if_t (d := .bool true) (by simp only [evalSs, evalS, evalE, evalEs, evalIT, Res.bind_ok, Res.bind_bad, Res.bind_exc, Res.tame_ok, Fl.go_next, Fl.go_ret, Fl.fin_next, Fl.fin_ret, slot_some, List.getElem?_cons_zero, List.getElem?_cons_succ, List.set_cons_zero, List.set_cons_succ, put_nm, put_tu, puts_nil, puts_cons, chainK_t, chainK_f, truth_bool, truth_none, truth_int, truth_list, truth_tuple, truth_str, o2_add_i, o2_sub_i, o2_lt_i, o2_le_i, o2_gt_i, o2_ge_i, o2_is_n, o2_is_b, o2_isnot_n, o2_isnot_b, o2_eq_i, o2_eq_s, o2_eq_ns, o2_eq_b, o2_ne_b, o2_idx_t0, o2_idx_t1, o1_len_scr, o1_len_t, o1_len_l, o1_len_s, o1_not_b, o1_tuple_l, o1_list_t, o1_list_l, o1_rev_t, o1_neg_i, o1_int_b, isi_s, isi_i, isi_b, isi_n, isi_t, isi_l, isTy, isNone_n, isNone_b, isNone_i, isNone_s, isNone_t, isNone_l, isBool_b, Bool.not_true, Bool.not_false, eq_self, if_true, if_false, Bool.false_eq_true, reduceIte, beq_self_eq_true]) rfl (seq_ret ?_)
              unfold isSumT
              rw [if_neg hc, if_pos rfl]
              rcases hl with rfl | ⟨_, l1, l2⟩
              · have i3 : op2 .in_ b (.tuple [.str w_whole, .str w_text, .str w_truth]) = .ok (.bool (isSort b)) := by
                  have := in_words b sorts3 h.2.1
                  have e : inWords sorts3 b = isSort b := by cases b <;> rfl
                  rw [e] at this
                  exact this
                simp only [evalSs, evalS, evalE, evalEs, evalIT, Res.bind_ok, Res.bind_bad, Res.bind_exc, Res.tame_ok, Fl.go_next, Fl.go_ret, Fl.fin_next, Fl.fin_ret, slot_some, List.getElem?_cons_zero, List.getElem?_cons_succ, List.set_cons_zero, List.set_cons_succ, put_nm, put_tu, puts_nil, puts_cons, chainK_t, chainK_f, truth_bool, truth_none, truth_int, truth_list, truth_tuple, truth_str, o2_add_i, o2_sub_i, o2_lt_i, o2_le_i, o2_gt_i, o2_ge_i, o2_is_n, o2_is_b, o2_isnot_n, o2_isnot_b, o2_eq_i, o2_eq_s, o2_eq_ns, o2_eq_b, o2_ne_b, o2_idx_t0, o2_idx_t1, o1_len_scr, o1_len_t, o1_len_l, o1_len_s, o1_not_b, o1_tuple_l, o1_list_t, o1_list_l, o1_rev_t, o1_neg_i, o1_int_b, isi_s, isi_i, isi_b, isi_n, isi_t, isi_l, isTy, isNone_n, isNone_b, isNone_i, isNone_s, isNone_t, isNone_l, isBool_b, Bool.not_true, Bool.not_false, eq_self, if_true, if_false, Bool.false_eq_true, reduceIte, beq_self_eq_true, List.length_cons, List.length_nil, i3] <;> rfl
              · rw [only_len l2]; simp only [evalSs, evalS, evalE, evalEs, evalIT, Res.bind_ok, Res.bind_bad, Res.bind_exc, Res.tame_ok, Fl.go_next, Fl.go_ret, Fl.fin_next, Fl.fin_ret, slot_some, List.getElem?_cons_zero, List.getElem?_cons_succ, List.set_cons_zero, List.set_cons_succ, put_nm, put_tu, puts_nil, puts_cons, chainK_t, chainK_f, truth_bool, truth_none, truth_int, truth_list, truth_tuple, truth_str, o2_add_i, o2_sub_i, o2_lt_i, o2_le_i, o2_gt_i, o2_ge_i, o2_is_n, o2_is_b, o2_isnot_n, o2_isnot_b, o2_eq_i, o2_eq_s, o2_eq_ns, o2_eq_b, o2_ne_b, o2_idx_t0, o2_idx_t1, o1_len_scr, o1_len_t, o1_len_l, o1_len_s, o1_not_b, o1_tuple_l, o1_list_t, o1_list_l, o1_rev_t, o1_neg_i, o1_int_b, isi_s, isi_i, isi_b, isi_n, isi_t, isi_l, isTy, isNone_n, isNone_b, isNone_i, isNone_s, isNone_t, isNone_l, isBool_b, Bool.not_true, Bool.not_false, eq_self, if_true, if_false, Bool.false_eq_true, reduceIte, beq_self_eq_true, len, l1]
            refine (seq_if_f (d := .bool false) (by simp only [evalSs, evalS, evalE, evalEs, evalIT, Res.bind_ok, Res.bind_bad, Res.bind_exc, Res.tame_ok, Fl.go_next, Fl.go_ret, Fl.fin_next, Fl.fin_ret, slot_some, List.getElem?_cons_zero, List.getElem?_cons_succ, List.set_cons_zero, List.set_cons_succ, put_nm, put_tu, puts_nil, puts_cons, chainK_t, chainK_f, truth_bool, truth_none, truth_int, truth_list, truth_tuple, truth_str, o2_add_i, o2_sub_i, o2_lt_i, o2_le_i, o2_gt_i, o2_ge_i, o2_is_n, o2_is_b, o2_isnot_n, o2_isnot_b, o2_eq_i, o2_eq_s, o2_eq_ns, o2_eq_b, o2_ne_b, o2_idx_t0, o2_idx_t1, o1_len_scr, o1_len_t, o1_len_l, o1_len_s, o1_not_b, o1_tuple_l, o1_list_t, o1_list_l, o1_rev_t, o1_neg_i, o1_int_b, isi_s, isi_i, isi_b, isi_n, isi_t, isi_l, isTy, isNone_n, isNone_b, isNone_i, isNone_s, isNone_t, isNone_l, isBool_b, Bool.not_true, Bool.not_false, eq_self, if_true, if_false, Bool.false_eq_true, reduceIte, beq_self_eq_true, beq_eq_false_iff_ne.mpr hg]) rfl rfl).trans ?_
            have eT : isSumT (isSum n) w (b :: r) = (decide (0 < manyOf w) && (((b :: r).length : Int) == manyOf w) && (b :: r).all (isSum n)) := by
              unfold isSumT
              rw [if_neg hc, if_neg hg, if_neg hv]
            rw [eT]
            refine (many_made ρ _ _ _ _ _).trans ?_
            have ik : isKeyed manyKvs = true := rfl
            have ni : op2 .notin (.str w) (.dict manyKvs) = .ok (.bool (!decide (0 < manyOf w))) := by
              show (if isKeyed manyKvs then Res.ok (lookD w manyKvs).isSome else .bad).bind (fun t => Res.ok (PyData.bool (!t))) = _
              rw [if_pos ik, look_many]
              by_cases q : 0 < manyOf w
              · rw [if_pos q, decide_eq_true q] <;> rfl
              · rw [if_neg q, decide_eq_false q] <;> rfl
            have pub : ∀ (ss : ISs) (env : En) (x : D), evalSs ρ ss env = .ok (.ret x) → evalSs ρ (.pub [2] ss) env = .ok (.ret x) := fun ss env x hx => by simp only [evalSs, hx, bind_ok, Fl.go_ret]
            refine pub _ _ _ ?_
            by_cases q0 : 0 < manyOf w
            · have ix : op2 .idx (.dict manyKvs) (.str w) = .ok (.int (manyOf w)) := by
                show (match lookD w manyKvs with | some d => Res.ok d | none => .bad) = _
                rw [look_many, if_pos q0]
              by_cases q1 : ((b :: r).length : Int) = manyOf w
              · have q1' : (((b :: r).length : Int) == manyOf w) = true := by rw [beq_iff_eq]; exact q1
                have nds : noDicts (b :: r) = true := by simp only [noDicts, h.2.1, h.2.2, Bool.and_self]
                have hc : evalE ρ c_law_is_sum_2 [some (.tuple (.str w :: b :: r)), some (.int dp), some (.dict manyKvs), some (.str w_else), some (.str w), some (.tuple (b :: r)), none] = .ok (.list (((b :: r).filter fun d => !isSum n d).map id)) := by
                  unfold c_law_is_sum_2
                  refine compIf_any (by simp only [evalSs, evalS, evalE, evalEs, evalIT, Res.bind_ok, Res.bind_bad, Res.bind_exc, Res.tame_ok, Fl.go_next, Fl.go_ret, Fl.fin_next, Fl.fin_ret, slot_some, List.getElem?_cons_zero, List.getElem?_cons_succ, List.set_cons_zero, List.set_cons_succ, put_nm, put_tu, puts_nil, puts_cons, chainK_t, chainK_f, truth_bool, truth_none, truth_int, truth_list, truth_tuple, truth_str, o2_add_i, o2_sub_i, o2_lt_i, o2_le_i, o2_gt_i, o2_ge_i, o2_is_n, o2_is_b, o2_isnot_n, o2_isnot_b, o2_eq_i, o2_eq_s, o2_eq_ns, o2_eq_b, o2_ne_b, o2_idx_t0, o2_idx_t1, o1_len_scr, o1_len_t, o1_len_l, o1_len_s, o1_not_b, o1_tuple_l, o1_list_t, o1_list_l, o1_rev_t, o1_neg_i, o1_int_b, isi_s, isi_i, isi_b, isi_n, isi_t, isi_l, isTy, isNone_n, isNone_b, isNone_i, isNone_s, isNone_t, isNone_l, isBool_b, Bool.not_true, Bool.not_false, eq_self, if_true, if_false, Bool.false_eq_true, reduceIte, beq_self_eq_true, itemsOf]) fun d hd => ?_
                  have nd := noDicts_mem nds hd
                  exact ⟨_, by simp only [evalSs, evalS, evalE, evalEs, evalIT, Res.bind_ok, Res.bind_bad, Res.bind_exc, Res.tame_ok, Fl.go_next, Fl.go_ret, Fl.fin_next, Fl.fin_ret, slot_some, List.getElem?_cons_zero, List.getElem?_cons_succ, List.set_cons_zero, List.set_cons_succ, put_nm, put_tu, puts_nil, puts_cons, chainK_t, chainK_f, truth_bool, truth_none, truth_int, truth_list, truth_tuple, truth_str, o2_add_i, o2_sub_i, o2_lt_i, o2_le_i, o2_gt_i, o2_ge_i, o2_is_n, o2_is_b, o2_isnot_n, o2_isnot_b, o2_eq_i, o2_eq_s, o2_eq_ns, o2_eq_b, o2_ne_b, o2_idx_t0, o2_idx_t1, o1_len_scr, o1_len_t, o1_len_l, o1_len_s, o1_not_b, o1_tuple_l, o1_list_t, o1_list_l, o1_rev_t, o1_neg_i, o1_int_b, isi_s, isi_i, isi_b, isi_n, isi_t, isi_l, isTy, isNone_n, isNone_b, isNone_i, isNone_s, isNone_t, isNone_l, isBool_b, Bool.not_true, Bool.not_false, eq_self, if_true, if_false, Bool.false_eq_true, reduceIte, beq_self_eq_true]; rfl, by simp only [evalSs, evalS, evalE, evalEs, evalIT, Res.bind_ok, Res.bind_bad, Res.bind_exc, Res.tame_ok, Fl.go_next, Fl.go_ret, Fl.fin_next, Fl.fin_ret, slot_some, List.getElem?_cons_zero, List.getElem?_cons_succ, List.set_cons_zero, List.set_cons_succ, put_nm, put_tu, puts_nil, puts_cons, chainK_t, chainK_f, truth_bool, truth_none, truth_int, truth_list, truth_tuple, truth_str, o2_add_i, o2_sub_i, o2_lt_i, o2_le_i, o2_gt_i, o2_ge_i, o2_is_n, o2_is_b, o2_isnot_n, o2_isnot_b, o2_eq_i, o2_eq_s, o2_eq_ns, o2_eq_b, o2_ne_b, o2_idx_t0, o2_idx_t1, o1_len_scr, o1_len_t, o1_len_l, o1_len_s, o1_not_b, o1_tuple_l, o1_list_t, o1_list_l, o1_rev_t, o1_neg_i, o1_int_b, isi_s, isi_i, isi_b, isi_n, isi_t, isi_l, isTy, isNone_n, isNone_b, isNone_i, isNone_s, isNone_t, isNone_l, isBool_b, Bool.not_true, Bool.not_false, eq_self, if_true, if_false, Bool.false_eq_true, reduceIte, beq_self_eq_true, ih n rfl d nd], fun _ => by simp only [evalSs, evalS, evalE, evalEs, evalIT, Res.bind_ok, Res.bind_bad, Res.bind_exc, Res.tame_ok, Fl.go_next, Fl.go_ret, Fl.fin_next, Fl.fin_ret, slot_some, List.getElem?_cons_zero, List.getElem?_cons_succ, List.set_cons_zero, List.set_cons_succ, put_nm, put_tu, puts_nil, puts_cons, chainK_t, chainK_f, truth_bool, truth_none, truth_int, truth_list, truth_tuple, truth_str, o2_add_i, o2_sub_i, o2_lt_i, o2_le_i, o2_gt_i, o2_ge_i, o2_is_n, o2_is_b, o2_isnot_n, o2_isnot_b, o2_eq_i, o2_eq_s, o2_eq_ns, o2_eq_b, o2_ne_b, o2_idx_t0, o2_idx_t1, o1_len_scr, o1_len_t, o1_len_l, o1_len_s, o1_not_b, o1_tuple_l, o1_list_t, o1_list_l, o1_rev_t, o1_neg_i, o1_int_b, isi_s, isi_i, isi_b, isi_n, isi_t, isi_l, isTy, isNone_n, isNone_b, isNone_i, isNone_s, isNone_t, isNone_l, isBool_b, Bool.not_true, Bool.not_false, eq_self, if_true, if_false, Bool.false_eq_true, reduceIte, beq_self_eq_true]; rfl⟩
                have nf : noDicts (((b :: r).filter fun d => !isSum n d).map id) = true := by
                  rw [List.map_id]
                  exact noDicts_of fun d hd => noDicts_mem nds (List.mem_filter.mp hd).1
                have fe : ((((b :: r).filter fun d => !isSum n d).map id).isEmpty) = (b :: r).all (isSum n) := by
                  rw [List.map_id]; exact filter_empty _ _
                refine (seq_if_f (d := .bool false) (by simp only [evalSs, evalS, evalE, evalEs, evalIT, Res.bind_ok, Res.bind_bad, Res.bind_exc, Res.tame_ok, Fl.go_next, Fl.go_ret, Fl.fin_next, Fl.fin_ret, slot_some, List.getElem?_cons_zero, List.getElem?_cons_succ, List.set_cons_zero, List.set_cons_succ, put_nm, put_tu, puts_nil, puts_cons, chainK_t, chainK_f, truth_bool, truth_none, truth_int, truth_list, truth_tuple, truth_str, o2_add_i, o2_sub_i, o2_lt_i, o2_le_i, o2_gt_i, o2_ge_i, o2_is_n, o2_is_b, o2_isnot_n, o2_isnot_b, o2_eq_i, o2_eq_s, o2_eq_ns, o2_eq_b, o2_ne_b, o2_idx_t0, o2_idx_t1, o1_len_scr, o1_len_t, o1_len_l, o1_len_s, o1_not_b, o1_tuple_l, o1_list_t, o1_list_l, o1_rev_t, o1_neg_i, o1_int_b, isi_s, isi_i, isi_b, isi_n, isi_t, isi_l, isTy, isNone_n, isNone_b, isNone_i, isNone_s, isNone_t, isNone_l, isBool_b, Bool.not_true, Bool.not_false, eq_self, if_true, if_false, Bool.false_eq_true, reduceIte, beq_self_eq_true, ni, decide_eq_true q0, ix, o2_ne_i, q1']) rfl rfl).trans (seq_ret ?_)
                simp only [evalSs, evalS, evalE, evalEs, evalIT, Res.bind_ok, Res.bind_bad, Res.bind_exc, Res.tame_ok, Fl.go_next, Fl.go_ret, Fl.fin_next, Fl.fin_ret, slot_some, List.getElem?_cons_zero, List.getElem?_cons_succ, List.set_cons_zero, List.set_cons_succ, put_nm, put_tu, puts_nil, puts_cons, chainK_t, chainK_f, truth_bool, truth_none, truth_int, truth_list, truth_tuple, truth_str, o2_add_i, o2_sub_i, o2_lt_i, o2_le_i, o2_gt_i, o2_ge_i, o2_is_n, o2_is_b, o2_isnot_n, o2_isnot_b, o2_eq_i, o2_eq_s, o2_eq_ns, o2_eq_b, o2_ne_b, o2_idx_t0, o2_idx_t1, o1_len_scr, o1_len_t, o1_len_l, o1_len_s, o1_not_b, o1_tuple_l, o1_list_t, o1_list_l, o1_rev_t, o1_neg_i, o1_int_b, isi_s, isi_i, isi_b, isi_n, isi_t, isi_l, isTy, isNone_n, isNone_b, isNone_i, isNone_s, isNone_t, isNone_l, isBool_b, Bool.not_true, Bool.not_false, eq_self, if_true, if_false, Bool.false_eq_true, reduceIte, beq_self_eq_true, hc, eq_nil_l _ nf, fe, decide_eq_true q0, q1', Bool.true_and]
              · have q1' : (((b :: r).length : Int) == manyOf w) = false := beq_eq_false_iff_ne.mpr q1
                refine seq_if_t (d := .bool true) (by simp only [evalSs, evalS, evalE, evalEs, evalIT, Res.bind_ok, Res.bind_bad, Res.bind_exc, Res.tame_ok, Fl.go_next, Fl.go_ret, Fl.fin_next, Fl.fin_ret, slot_some, List.getElem?_cons_zero, List.getElem?_cons_succ, List.set_cons_zero, List.set_cons_succ, put_nm, put_tu, puts_nil, puts_cons, chainK_t, chainK_f, truth_bool, truth_none, truth_int, truth_list, truth_tuple, truth_str, o2_add_i, o2_sub_i, o2_lt_i, o2_le_i, o2_gt_i, o2_ge_i, o2_is_n, o2_is_b, o2_isnot_n, o2_isnot_b, o2_eq_i, o2_eq_s, o2_eq_ns, o2_eq_b, o2_ne_b, o2_idx_t0, o2_idx_t1, o1_len_scr, o1_len_t, o1_len_l, o1_len_s, o1_not_b, o1_tuple_l, o1_list_t, o1_list_l, o1_rev_t, o1_neg_i, o1_int_b, isi_s, isi_i, isi_b, isi_n, isi_t, isi_l, isTy, isNone_n, isNone_b, isNone_i, isNone_s, isNone_t, isNone_l, isBool_b, Bool.not_true, Bool.not_false, eq_self, if_true, if_false, Bool.false_eq_true, reduceIte, beq_self_eq_true, ni, decide_eq_true q0, ix, o2_ne_i, q1']) rfl (seq_ret ?_)
                simp only [evalSs, evalS, evalE, evalEs, evalIT, Res.bind_ok, Res.bind_bad, Res.bind_exc, Res.tame_ok, Fl.go_next, Fl.go_ret, Fl.fin_next, Fl.fin_ret, slot_some, List.getElem?_cons_zero, List.getElem?_cons_succ, List.set_cons_zero, List.set_cons_succ, put_nm, put_tu, puts_nil, puts_cons, chainK_t, chainK_f, truth_bool, truth_none, truth_int, truth_list, truth_tuple, truth_str, o2_add_i, o2_sub_i, o2_lt_i, o2_le_i, o2_gt_i, o2_ge_i, o2_is_n, o2_is_b, o2_isnot_n, o2_isnot_b, o2_eq_i, o2_eq_s, o2_eq_ns, o2_eq_b, o2_ne_b, o2_idx_t0, o2_idx_t1, o1_len_scr, o1_len_t, o1_len_l, o1_len_s, o1_not_b, o1_tuple_l, o1_list_t, o1_list_l, o1_rev_t, o1_neg_i, o1_int_b, isi_s, isi_i, isi_b, isi_n, isi_t, isi_l, isTy, isNone_n, isNone_b, isNone_i, isNone_s, isNone_t, isNone_l, isBool_b, Bool.not_true, Bool.not_false, eq_self, if_true, if_false, Bool.false_eq_true, reduceIte, beq_self_eq_true, q1', Bool.and_false, Bool.false_and]
            · refine seq_if_t (d := .bool true) (by simp only [evalSs, evalS, evalE, evalEs, evalIT, Res.bind_ok, Res.bind_bad, Res.bind_exc, Res.tame_ok, Fl.go_next, Fl.go_ret, Fl.fin_next, Fl.fin_ret, slot_some, List.getElem?_cons_zero, List.getElem?_cons_succ, List.set_cons_zero, List.set_cons_succ, put_nm, put_tu, puts_nil, puts_cons, chainK_t, chainK_f, truth_bool, truth_none, truth_int, truth_list, truth_tuple, truth_str, o2_add_i, o2_sub_i, o2_lt_i, o2_le_i, o2_gt_i, o2_ge_i, o2_is_n, o2_is_b, o2_isnot_n, o2_isnot_b, o2_eq_i, o2_eq_s, o2_eq_ns, o2_eq_b, o2_ne_b, o2_idx_t0, o2_idx_t1, o1_len_scr, o1_len_t, o1_len_l, o1_len_s, o1_not_b, o1_tuple_l, o1_list_t, o1_list_l, o1_rev_t, o1_neg_i, o1_int_b, isi_s, isi_i, isi_b, isi_n, isi_t, isi_l, isTy, isNone_n, isNone_b, isNone_i, isNone_s, isNone_t, isNone_l, isBool_b, Bool.not_true, Bool.not_false, eq_self, if_true, if_false, Bool.false_eq_true, reduceIte, beq_self_eq_true, ni, decide_eq_false q0]) rfl (seq_ret ?_)
              simp only [evalSs, evalS, evalE, evalEs, evalIT, Res.bind_ok, Res.bind_bad, Res.bind_exc, Res.tame_ok, Fl.go_next, Fl.go_ret, Fl.fin_next, Fl.fin_ret, slot_some, List.getElem?_cons_zero, List.getElem?_cons_succ, List.set_cons_zero, List.set_cons_succ, put_nm, put_tu, puts_nil, puts_cons, chainK_t, chainK_f, truth_bool, truth_none, truth_int, truth_list, truth_tuple, truth_str, o2_add_i, o2_sub_i, o2_lt_i, o2_le_i, o2_gt_i, o2_ge_i, o2_is_n, o2_is_b, o2_isnot_n, o2_isnot_b, o2_eq_i, o2_eq_s, o2_eq_ns, o2_eq_b, o2_ne_b, o2_idx_t0, o2_idx_t1, o1_len_scr, o1_len_t, o1_len_l, o1_len_s, o1_not_b, o1_tuple_l, o1_list_t, o1_list_l, o1_rev_t, o1_neg_i, o1_int_b, isi_s, isi_i, isi_b, isi_n, isi_t, isi_l, isTy, isNone_n, isNone_b, isNone_i, isNone_s, isNone_t, isNone_l, isBool_b, Bool.not_true, Bool.not_false, eq_self, if_true, if_false, Bool.false_eq_true, reduceIte, beq_self_eq_true, decide_eq_false q0, Bool.false_and]
          | dict _ => simp [noDict] at h
          | _ => exact fin_of (seq_if_t (d := .bool true) (by simp only [evalSs, evalS, evalE, evalEs, evalIT, Res.bind_ok, Res.bind_bad, Res.bind_exc, Res.tame_ok, Fl.go_next, Fl.go_ret, Fl.fin_next, Fl.fin_ret, slot_some, List.getElem?_cons_zero, List.getElem?_cons_succ, List.set_cons_zero, List.set_cons_succ, put_nm, put_tu, puts_nil, puts_cons, chainK_t, chainK_f, truth_bool, truth_none, truth_int, truth_list, truth_tuple, truth_str, o2_add_i, o2_sub_i, o2_lt_i, o2_le_i, o2_gt_i, o2_ge_i, o2_is_n, o2_is_b, o2_isnot_n, o2_isnot_b, o2_eq_i, o2_eq_s, o2_eq_ns, o2_eq_b, o2_ne_b, o2_idx_t0, o2_idx_t1, o1_len_scr, o1_len_t, o1_len_l, o1_len_s, o1_not_b, o1_tuple_l, o1_list_t, o1_list_l, o1_rev_t, o1_neg_i, o1_int_b, isi_s, isi_i, isi_b, isi_n, isi_t, isi_l, isTy, isNone_n, isNone_b, isNone_i, isNone_s, isNone_t, isNone_l, isBool_b, Bool.not_true, Bool.not_false, eq_self, if_true, if_false, Bool.false_eq_true, reduceIte, beq_self_eq_true, len_lt2, z]) rfl (seq_ret (by simp only [evalSs, evalS, evalE, evalEs, evalIT, Res.bind_ok, Res.bind_bad, Res.bind_exc, Res.tame_ok, Fl.go_next, Fl.go_ret, Fl.fin_next, Fl.fin_ret, slot_some, List.getElem?_cons_zero, List.getElem?_cons_succ, List.set_cons_zero, List.set_cons_succ, put_nm, put_tu, puts_nil, puts_cons, chainK_t, chainK_f, truth_bool, truth_none, truth_int, truth_list, truth_tuple, truth_str, o2_add_i, o2_sub_i, o2_lt_i, o2_le_i, o2_gt_i, o2_ge_i, o2_is_n, o2_is_b, o2_isnot_n, o2_isnot_b, o2_eq_i, o2_eq_s, o2_eq_ns, o2_eq_b, o2_ne_b, o2_idx_t0, o2_idx_t1, o1_len_scr, o1_len_t, o1_len_l, o1_len_s, o1_not_b, o1_tuple_l, o1_list_t, o1_list_l, o1_rev_t, o1_neg_i, o1_int_b, isi_s, isi_i, isi_b, isi_n, isi_t, isi_l, isTy, isNone_n, isNone_b, isNone_i, isNone_s, isNone_t, isNone_l, isBool_b, Bool.not_true, Bool.not_false, eq_self, if_true, if_false, Bool.false_eq_true, reduceIte, beq_self_eq_true] <;> rfl)))
    | dict _ => simp [noDict] at h
    | _ =>
      have : ∀ d : D, (∀ ds, d ≠ .tuple ds) → isSum n d = false := fun d hd => by
        cases n with
        | zero => rfl
        | succ n => cases d <;> first | rfl | exact absurd rfl (hd _)
      exact (fin_of (seq_if_t (d := .bool true) (x := .bool false) (by simp only [evalSs, evalS, evalE, evalEs, evalIT, Res.bind_ok, Res.bind_bad, Res.bind_exc, Res.tame_ok, Fl.go_next, Fl.go_ret, Fl.fin_next, Fl.fin_ret, slot_some, List.getElem?_cons_zero, List.getElem?_cons_succ, List.set_cons_zero, List.set_cons_succ, put_nm, put_tu, puts_nil, puts_cons, chainK_t, chainK_f, truth_bool, truth_none, truth_int, truth_list, truth_tuple, truth_str, o2_add_i, o2_sub_i, o2_lt_i, o2_le_i, o2_gt_i, o2_ge_i, o2_is_n, o2_is_b, o2_isnot_n, o2_isnot_b, o2_eq_i, o2_eq_s, o2_eq_ns, o2_eq_b, o2_ne_b, o2_idx_t0, o2_idx_t1, o1_len_scr, o1_len_t, o1_len_l, o1_len_s, o1_not_b, o1_tuple_l, o1_list_t, o1_list_l, o1_rev_t, o1_neg_i, o1_int_b, isi_s, isi_i, isi_b, isi_n, isi_t, isi_l, isTy, isNone_n, isNone_b, isNone_i, isNone_s, isNone_t, isNone_l, isBool_b, Bool.not_true, Bool.not_false, eq_self, if_true, if_false, Bool.false_eq_true, reduceIte, beq_self_eq_true]) rfl (seq_ret (by simp only [evalSs, evalS, evalE, evalEs, evalIT, Res.bind_ok, Res.bind_bad, Res.bind_exc, Res.tame_ok, Fl.go_next, Fl.go_ret, Fl.fin_next, Fl.fin_ret, slot_some, List.getElem?_cons_zero, List.getElem?_cons_succ, List.set_cons_zero, List.set_cons_succ, put_nm, put_tu, puts_nil, puts_cons, chainK_t, chainK_f, truth_bool, truth_none, truth_int, truth_list, truth_tuple, truth_str, o2_add_i, o2_sub_i, o2_lt_i, o2_le_i, o2_gt_i, o2_ge_i, o2_is_n, o2_is_b, o2_isnot_n, o2_isnot_b, o2_eq_i, o2_eq_s, o2_eq_ns, o2_eq_b, o2_ne_b, o2_idx_t0, o2_idx_t1, o1_len_scr, o1_len_t, o1_len_l, o1_len_s, o1_not_b, o1_tuple_l, o1_list_t, o1_list_l, o1_rev_t, o1_neg_i, o1_int_b, isi_s, isi_i, isi_b, isi_n, isi_t, isi_l, isTy, isNone_n, isNone_b, isNone_i, isNone_s, isNone_t, isNone_l, isBool_b, Bool.not_true, Bool.not_false, eq_self, if_true, if_false, Bool.false_eq_true, reduceIte, beq_self_eq_true])))).trans (congrArg (fun b => Res.ok (PyData.bool b)) (this _ (by intro ds z; cases z)).symm)
termination_by n => n
decreasing_by all_goals omega
theorem fine_t1 {L : Nat} {a b : D} (hL : 4 ≤ L) (h1 : fine L a = true) (h2 : fine L b = true) : fine L (.tuple [a, b]) = true := by
  simp only [fine, fines, h1, h2, List.length_cons, List.length_nil, Bool.and_true, decide_eq_true_eq]; omega
theorem fine_t2 {L : Nat} {a b c : D} (hL : 4 ≤ L) (h1 : fine L a = true) (h2 : fine L b = true) (h3 : fine L c = true) : fine L (.tuple [a, b, c]) = true := by
  simp only [fine, fines, h1, h2, h3, List.length_cons, List.length_nil, Bool.and_true, decide_eq_true_eq]; omega
theorem fine_t3 {L : Nat} {a b c d : D} (hL : 4 ≤ L) (h1 : fine L a = true) (h2 : fine L b = true) (h3 : fine L c = true) (h4 : fine L d = true) : fine L (.tuple [a, b, c, d]) = true := by
  simp only [fine, fines, h1, h2, h3, h4, List.length_cons, List.length_nil, Bool.and_true, decide_eq_true_eq]; omega
theorem depth_1 (w : Str) (a : D) : PyData.depth (.tuple [.str w, a]) = PyData.depth a + 1 := by simp [PyData.depth, PyData.depthAll]
theorem depth_2 (w : Str) (a b : D) : PyData.depth (.tuple [.str w, a, b]) = max (PyData.depth a) (PyData.depth b) + 1 := by simp [PyData.depth, PyData.depthAll]
theorem depth_3 (w : Str) (a b c : D) : PyData.depth (.tuple [.str w, a, b, c]) = max (PyData.depth a) (max (PyData.depth b) (PyData.depth c)) + 1 := by simp [PyData.depth, PyData.depthAll]
theorem sumT_1 (f : D → Bool) (a : D) (w : Str) (h : w ∈ words1) : isSumT f w [a] = f a := by
  have e : isSumT f w [a] = (f a && true) := by
    simp only [words1, List.mem_cons, List.not_mem_nil, or_false] at h
    rcases h with rfl | rfl | rfl <;> kernel_rfl
  rw [e, Bool.and_true]
theorem sumT_2 (f : D → Bool) (a b : D) (w : Str) (h : w ∈ words2) : isSumT f w [a, b] = (f a && f b) := by
  have e : isSumT f w [a, b] = (f a && (f b && true)) := by
    simp only [words2, List.mem_cons, List.not_mem_nil, or_false] at h
    rcases h with rfl | rfl | rfl | rfl | rfl | rfl | rfl | rfl | rfl <;> kernel_rfl
  rw [e, Bool.and_true]
theorem sumT_3 (f : D → Bool) (a b c : D) : isSumT f w_if [a, b, c] = (f a && (f b && f c)) := by
  have e : isSumT f w_if [a, b, c] = (f a && (f b && (f c && true))) := by kernel_rfl
  rw [e, Bool.and_true]
theorem len2 (ds : List D) : ds.length = 2 ↔ ∃ a b, ds = [a, b] := by
  constructor
  · intro h
    match ds, h with
    | [a, b], _ => exact ⟨a, b, rfl⟩
  · rintro ⟨a, b, rfl⟩; rfl
theorem ne_nil_l (xs : List D) (h : noDicts xs = true) : op2 .ne (.list xs) (.list []) = .ok (.bool (!xs.isEmpty)) := by
  rw [o2_ne]
  · cases xs <;> simp [PyData.eqv, PyData.eqvAll]
  · unfold eqOk
    have d : PyData.depth (.list []) ≤ 60 := by simp [PyData.depth, PyData.depthAll]
    rw [show noDict (.list xs) = true by simpa [noDict] using h, show noDict (.list []) = true by simp [noDict, noDicts]]
    exact decide_eq_true (by omega)
theorem isEmpty_map {α β : Type} (f : α → β) (l : List α) : (l.map f).isEmpty = l.isEmpty := by cases l <;> rfl
theorem depthAll_le {ds : List D} {n : Nat} (h : ∀ d ∈ ds, PyData.depth d ≤ n) : PyData.depthAll ds ≤ n := by
  induction ds with
  | nil => simp [PyData.depthAll]
  | cons d ds ih =>
    rw [PyData.depthAll]
    have h1 := h d (by simp)
    have h2 := ih fun x hx => h x (List.mem_cons_of_mem _ hx)
    omega
theorem depth_tup {ds : List D} {n : Nat} (h : ∀ d ∈ ds, PyData.depth d ≤ n) : PyData.depth (.tuple ds) ≤ n + 1 := by
  rw [PyData.depth]
  have := depthAll_le h
  omega
/-! rules for parts of expressions -/
section
variable {ρ : Nat → List D → Res D} {env : En}
theorem and_b {a b : IE} {x y : Bool} (ha : evalE ρ a env = .ok (.bool x)) (hb : x = true → evalE ρ b env = .ok (.bool y)) : evalE ρ (.and_ a b) env = .ok (.bool (x && y)) := by
  cases x with
  | true => simp only [evalE, ha, bind_ok, truth_bool, if_true, hb rfl, Bool.true_and]
  | false => simp only [evalE, ha, bind_ok, truth_bool, if_false, Bool.false_eq_true, Bool.false_and]
theorem or_b {a b : IE} {x y : Bool} (ha : evalE ρ a env = .ok (.bool x)) (hb : x = false → evalE ρ b env = .ok (.bool y)) : evalE ρ (.or_ a b) env = .ok (.bool (x || y)) := by
  cases x with
  | false => simp only [evalE, ha, bind_ok, truth_bool, if_false, Bool.false_eq_true, hb rfl, Bool.false_or]
  | true => simp only [evalE, ha, bind_ok, truth_bool, if_true, Bool.true_or]
theorem not_b {a : IE} {x : Bool} (ha : evalE ρ a env = .ok (.bool x)) : evalE ρ (.o1 .not a) env = .ok (.bool (!x)) := by
  simp only [evalE, ha, bind_ok, o1_not_b]
theorem len_is {e : IE} {ps : List D} (h : evalE ρ e env = .ok (.tuple ps)) (k : Nat) : evalE ρ (.o2 .eq (.o1 .len e) (.int k)) env = .ok (.bool (decide (ps.length = k))) := by
  simp only [evalE, h, bind_ok, o1_len_t, o2_eq_i, int_eq]
theorem len_isnt {e : IE} {ps : List D} (h : evalE ρ e env = .ok (.tuple ps)) (k : Nat) : evalE ρ (.o2 .ne (.o1 .len e) (.int k)) env = .ok (.bool (!decide (ps.length = k))) := by
  simp only [evalE, h, bind_ok, o1_len_t, o2_ne_i, int_eq]
theorem len_less {e : IE} {ps : List D} (h : evalE ρ e env = .ok (.tuple ps)) (k : Nat) : evalE ρ (.o2 .lt (.o1 .len e) (.int k)) env = .ok (.bool (decide (ps.length < k))) := by
  simp only [evalE, h, bind_ok, o1_len_t, o2_lt_i]
  congr 2
  by_cases q : ps.length < k
  · rw [decide_eq_true q, decide_eq_true (by omega)]
  · rw [decide_eq_false q, decide_eq_false (by omega)]
theorem call1 {f : Nat} {a : IE} {d r : D} (ha : evalE ρ a env = .ok d) (h : ρ f [d] = .ok r) : evalE ρ (.call f (.cons a .nil)) env = .ok r := by
  simp only [evalE, evalEs, ha, bind_ok, h]
theorem call2 {f : Nat} {a b : IE} {d e r : D} (ha : evalE ρ a env = .ok d) (hb : evalE ρ b env = .ok e) (h : ρ f [d, e] = .ok r) : evalE ρ (.call f (.cons a (.cons b .nil))) env = .ok r := by
  simp only [evalE, evalEs, ha, hb, bind_ok, h]
theorem idx_at {e : IE} {ps : List D} {i : Nat} {d : D} (he : evalE ρ e env = .ok (.tuple ps)) (h : ps[i]? = some d) : evalE ρ (.o2 .idx e (.int i)) env = .ok d := by
  simp only [evalE, he, bind_ok]
  exact o2_idx_t (atI_nat h)
theorem seq_if {c : IE} {a ss : ISs} {x : Bool} {v : D} (h : evalE ρ c env = .ok (.bool x)) (t : x = true → evalSs ρ a env = .ok (.ret v)) (f : x = false → evalSs ρ ss env = .ok (.ret v)) : evalSs ρ (.cons (.if_ c a .nil) ss) env = .ok (.ret v) := by
  cases x with
  | true => exact seq_if_t h rfl (t rfl)
  | false => exact (seq_if_f h rfl rfl).trans (f rfl)
theorem ret_b {e : IE} {ss : ISs} {x y : Bool} (h : evalE ρ e env = .ok (.bool x)) (hxy : x = y) : evalSs ρ (.cons (.ret e) ss) env = .ok (.ret (.bool y)) := by
  subst hxy; exact seq_ret h
theorem o2_is_s {e : IE} {w : Str} {z : Str} (h : evalE ρ e env = .ok (.str w)) : evalE ρ (.o2 .eq e (.str z)) env = .ok (.bool (w == z)) := by
  simp only [evalE, h, bind_ok, o2_eq_s]
theorem in_tup {e : IE} {d : D} {ws : List Str} {g : IE} (h : evalE ρ e env = .ok d) (hg : evalE ρ g env = .ok (.tuple (ws.map PyData.str))) (nd : noDict d = true) : evalE ρ (.o2 .in_ e g) env = .ok (.bool (inWords ws d)) := by
  simp only [evalE, h, hg, bind_ok]
  exact in_words d ws nd
theorem isi_at {e : IE} {d : D} (h : evalE ρ e env = .ok d) (t : Ty) (nd : noDict d = true) : evalE ρ (.isi e t) env = .ok (.bool (isTy d t)) := by
  simp only [evalE, h, bind_ok]
  cases d with
  | dict _ => simp [noDict] at nd
  | _ => rfl
end
/-! what is a question -/
def strOf : D → Str
  | .str x => x
  | _ => Str.empty
def namesOk (ds : List D) : Bool := ds.all isName && ((unlike (ds.map strOf)).length == ds.length)
def areNames (k : Nat) : D → Bool
  | .tuple ds => decide (k ≤ ds.length) && namesOk ds
  | _ => false
theorem names_strs {ds : List D} (h : ds.all isName = true) : ds = (ds.map strOf).map PyData.str := by
  rw [List.map_map]
  have : ∀ d ∈ ds, (PyData.str ∘ strOf) d = d := fun d hd => by
    obtain ⟨x, rfl⟩ := isName_str (List.all_eq_true.mp h d hd); rfl
  conv => lhs; rw [← List.map_id ds]
  exact List.map_congr_left fun d hd => (this d hd).symm
theorem lenSetL_str (xs : List Str) (h : xs.length ≤ 1000) : lenSetL (xs.map PyData.str) = .ok (.int (unlike xs).length) := by
  unfold lenSetL
  rw [strs_str]
  show (if decide (xs.length ≤ 1000) = true then Res.ok (PyData.int (unlike xs).length) else .bad) = _
  rw [if_pos (decide_eq_true h)]
theorem lenSet_names {ds : List D} (h : ds.all isName = true) (hl : ds.length ≤ 1000) : lenSetL ds = .ok (.int (unlike (ds.map strOf)).length) := by
  have e := names_strs h
  conv => lhs; rw [e]
  exact lenSetL_str _ (by rw [List.length_map]; exact hl)
theorem unlikeT_eq (n : Nat) (ds : List D) (h : ds.all isName = true) (hl : ds.length ≤ 1000) : callF defs (n + 1) F.are_unlike [.tuple ds] = .ok (.bool ((unlike (ds.map strOf)).length == ds.length)) := by
  rw [u_are_unlike]
  have e1 : op1 .lenSet (.tuple ds) = .ok (.int (unlike (ds.map strOf)).length) := lenSet_names h hl
  simp only [evalSs, evalS, evalE, evalEs, evalIT, Res.bind_ok, Res.bind_bad, Res.bind_exc, Res.tame_ok, Fl.go_next, Fl.go_ret, Fl.fin_next, Fl.fin_ret, slot_some, List.getElem?_cons_zero, List.getElem?_cons_succ, List.set_cons_zero, List.set_cons_succ, put_nm, put_tu, puts_nil, puts_cons, chainK_t, chainK_f, truth_bool, truth_none, truth_int, truth_list, truth_tuple, truth_str, o2_add_i, o2_sub_i, o2_lt_i, o2_le_i, o2_gt_i, o2_ge_i, o2_is_n, o2_is_b, o2_isnot_n, o2_isnot_b, o2_eq_i, o2_eq_s, o2_eq_ns, o2_eq_b, o2_ne_b, o2_idx_t0, o2_idx_t1, o1_len_scr, o1_len_t, o1_len_l, o1_len_s, o1_not_b, o1_tuple_l, o1_list_t, o1_list_l, o1_rev_t, o1_neg_i, o1_int_b, isi_s, isi_i, isi_b, isi_n, isi_t, isi_l, isTy, isNone_n, isNone_b, isNone_i, isNone_s, isNone_t, isNone_l, isBool_b, Bool.not_true, Bool.not_false, eq_self, if_true, if_false, Bool.false_eq_true, reduceIte, beq_self_eq_true, f_are_unlike, e1, nat_beq]
theorem are_names_eq (n : Nat) (d : D) (k : Nat) (hf : fine 1000 d = true) : callF defs (n + 2) F.are_names [d, .int k] = .ok (.bool (areNames k d)) := by
  rw [u_are_names]
  have nd := fine_noDict d hf
  cases d with
  | tuple ds =>
    have hl := (fine_tuple.mp hf).1
    have hv : ∀ o : Option D, evalE (callF defs (n + 1)) (.var 0) [some (.tuple ds), some (.int k), o] = .ok (.tuple ds) := fun o => by simp only [evalSs, evalS, evalE, evalEs, evalIT, Res.bind_ok, Res.bind_bad, Res.bind_exc, Res.tame_ok, Fl.go_next, Fl.go_ret, Fl.fin_next, Fl.fin_ret, slot_some, List.getElem?_cons_zero, List.getElem?_cons_succ, List.set_cons_zero, List.set_cons_succ, put_nm, put_tu, puts_nil, puts_cons, chainK_t, chainK_f, truth_bool, truth_none, truth_int, truth_list, truth_tuple, truth_str, o2_add_i, o2_sub_i, o2_lt_i, o2_le_i, o2_gt_i, o2_ge_i, o2_is_n, o2_is_b, o2_isnot_n, o2_isnot_b, o2_eq_i, o2_eq_s, o2_eq_ns, o2_eq_b, o2_ne_b, o2_idx_t0, o2_idx_t1, o1_len_scr, o1_len_t, o1_len_l, o1_len_s, o1_not_b, o1_tuple_l, o1_list_t, o1_list_l, o1_rev_t, o1_neg_i, o1_int_b, isi_s, isi_i, isi_b, isi_n, isi_t, isi_l, isTy, isNone_n, isNone_b, isNone_i, isNone_s, isNone_t, isNone_l, isBool_b, Bool.not_true, Bool.not_false, eq_self, if_true, if_false, Bool.false_eq_true, reduceIte, beq_self_eq_true]
    have hc : evalE (callF defs (n + 1)) c_are_names_0 [some (.tuple ds), some (.int k), none] = .ok (.list (ds.map fun d => .bool (isName d))) := by
      unfold c_are_names_0
      refine comp_nm (by simp only [evalSs, evalS, evalE, evalEs, evalIT, Res.bind_ok, Res.bind_bad, Res.bind_exc, Res.tame_ok, Fl.go_next, Fl.go_ret, Fl.fin_next, Fl.fin_ret, slot_some, List.getElem?_cons_zero, List.getElem?_cons_succ, List.set_cons_zero, List.set_cons_succ, put_nm, put_tu, puts_nil, puts_cons, chainK_t, chainK_f, truth_bool, truth_none, truth_int, truth_list, truth_tuple, truth_str, o2_add_i, o2_sub_i, o2_lt_i, o2_le_i, o2_gt_i, o2_ge_i, o2_is_n, o2_is_b, o2_isnot_n, o2_isnot_b, o2_eq_i, o2_eq_s, o2_eq_ns, o2_eq_b, o2_ne_b, o2_idx_t0, o2_idx_t1, o1_len_scr, o1_len_t, o1_len_l, o1_len_s, o1_not_b, o1_tuple_l, o1_list_t, o1_list_l, o1_rev_t, o1_neg_i, o1_int_b, isi_s, isi_i, isi_b, isi_n, isi_t, isi_l, isTy, isNone_n, isNone_b, isNone_i, isNone_s, isNone_t, isNone_l, isBool_b, Bool.not_true, Bool.not_false, eq_self, if_true, if_false, Bool.false_eq_true, reduceIte, beq_self_eq_true, itemsOf]) fun d hd => ?_
      simp only [evalSs, evalS, evalE, evalEs, evalIT, Res.bind_ok, Res.bind_bad, Res.bind_exc, Res.tame_ok, Fl.go_next, Fl.go_ret, Fl.fin_next, Fl.fin_ret, slot_some, List.getElem?_cons_zero, List.getElem?_cons_succ, List.set_cons_zero, List.set_cons_succ, put_nm, put_tu, puts_nil, puts_cons, chainK_t, chainK_f, truth_bool, truth_none, truth_int, truth_list, truth_tuple, truth_str, o2_add_i, o2_sub_i, o2_lt_i, o2_le_i, o2_gt_i, o2_ge_i, o2_is_n, o2_is_b, o2_isnot_n, o2_isnot_b, o2_eq_i, o2_eq_s, o2_eq_ns, o2_eq_b, o2_ne_b, o2_idx_t0, o2_idx_t1, o1_len_scr, o1_len_t, o1_len_l, o1_len_s, o1_not_b, o1_tuple_l, o1_list_t, o1_list_l, o1_rev_t, o1_neg_i, o1_int_b, isi_s, isi_i, isi_b, isi_n, isi_t, isi_l, isTy, isNone_n, isNone_b, isNone_i, isNone_s, isNone_t, isNone_l, isBool_b, Bool.not_true, Bool.not_false, eq_self, if_true, if_false, Bool.false_eq_true, reduceIte, beq_self_eq_true, is_name_eq n d (fine_noDict d ((fine_tuple.mp hf).2 d hd))]
    have hlt : evalE (callF defs (n + 1)) (.o2 .lt (.o1 .len (.var 0)) (.var 1)) [some (.tuple ds), some (.int k), none] = .ok (.bool (decide (ds.length < k))) := by
      simp only [evalSs, evalS, evalE, evalEs, evalIT, Res.bind_ok, Res.bind_bad, Res.bind_exc, Res.tame_ok, Fl.go_next, Fl.go_ret, Fl.fin_next, Fl.fin_ret, slot_some, List.getElem?_cons_zero, List.getElem?_cons_succ, List.set_cons_zero, List.set_cons_succ, put_nm, put_tu, puts_nil, puts_cons, chainK_t, chainK_f, truth_bool, truth_none, truth_int, truth_list, truth_tuple, truth_str, o2_add_i, o2_sub_i, o2_lt_i, o2_le_i, o2_gt_i, o2_ge_i, o2_is_n, o2_is_b, o2_isnot_n, o2_isnot_b, o2_eq_i, o2_eq_s, o2_eq_ns, o2_eq_b, o2_ne_b, o2_idx_t0, o2_idx_t1, o1_len_scr, o1_len_t, o1_len_l, o1_len_s, o1_not_b, o1_tuple_l, o1_list_t, o1_list_l, o1_rev_t, o1_neg_i, o1_int_b, isi_s, isi_i, isi_b, isi_n, isi_t, isi_l, isTy, isNone_n, isNone_b, isNone_i, isNone_s, isNone_t, isNone_l, isBool_b, Bool.not_true, Bool.not_false, eq_self, if_true, if_false, Bool.false_eq_true, reduceIte, beq_self_eq_true]
      congr 2
      by_cases q : ds.length < k
      · rw [decide_eq_true q, decide_eq_true (by omega)]
      · rw [decide_eq_false q, decide_eq_false (by omega)]
    refine fin_of (seq_if (or_b (x := false) (by simp only [evalSs, evalS, evalE, evalEs, evalIT, Res.bind_ok, Res.bind_bad, Res.bind_exc, Res.tame_ok, Fl.go_next, Fl.go_ret, Fl.fin_next, Fl.fin_ret, slot_some, List.getElem?_cons_zero, List.getElem?_cons_succ, List.set_cons_zero, List.set_cons_succ, put_nm, put_tu, puts_nil, puts_cons, chainK_t, chainK_f, truth_bool, truth_none, truth_int, truth_list, truth_tuple, truth_str, o2_add_i, o2_sub_i, o2_lt_i, o2_le_i, o2_gt_i, o2_ge_i, o2_is_n, o2_is_b, o2_isnot_n, o2_isnot_b, o2_eq_i, o2_eq_s, o2_eq_ns, o2_eq_b, o2_ne_b, o2_idx_t0, o2_idx_t1, o1_len_scr, o1_len_t, o1_len_l, o1_len_s, o1_not_b, o1_tuple_l, o1_list_t, o1_list_l, o1_rev_t, o1_neg_i, o1_int_b, isi_s, isi_i, isi_b, isi_n, isi_t, isi_l, isTy, isNone_n, isNone_b, isNone_i, isNone_s, isNone_t, isNone_l, isBool_b, Bool.not_true, Bool.not_false, eq_self, if_true, if_false, Bool.false_eq_true, reduceIte, beq_self_eq_true]) fun _ => hlt) (fun t => ?_) fun f => ?_)
    · have q : ds.length < k := by simpa using t
      refine ret_b (x := false) (by simp only [evalSs, evalS, evalE, evalEs, evalIT, Res.bind_ok, Res.bind_bad, Res.bind_exc, Res.tame_ok, Fl.go_next, Fl.go_ret, Fl.fin_next, Fl.fin_ret, slot_some, List.getElem?_cons_zero, List.getElem?_cons_succ, List.set_cons_zero, List.set_cons_succ, put_nm, put_tu, puts_nil, puts_cons, chainK_t, chainK_f, truth_bool, truth_none, truth_int, truth_list, truth_tuple, truth_str, o2_add_i, o2_sub_i, o2_lt_i, o2_le_i, o2_gt_i, o2_ge_i, o2_is_n, o2_is_b, o2_isnot_n, o2_isnot_b, o2_eq_i, o2_eq_s, o2_eq_ns, o2_eq_b, o2_ne_b, o2_idx_t0, o2_idx_t1, o1_len_scr, o1_len_t, o1_len_l, o1_len_s, o1_not_b, o1_tuple_l, o1_list_t, o1_list_l, o1_rev_t, o1_neg_i, o1_int_b, isi_s, isi_i, isi_b, isi_n, isi_t, isi_l, isTy, isNone_n, isNone_b, isNone_i, isNone_s, isNone_t, isNone_l, isBool_b, Bool.not_true, Bool.not_false, eq_self, if_true, if_false, Bool.false_eq_true, reduceIte, beq_self_eq_true]) ?_
      simp only [areNames, decide_eq_false (show ¬ k ≤ ds.length by omega), Bool.false_and]
    · have q : k ≤ ds.length := by
        have : ¬ ds.length < k := by simpa using f
        omega
      refine ret_b (and_b (x := ds.all isName) (y := (unlike (ds.map strOf)).length == ds.length) (by simp only [evalSs, evalS, evalE, evalEs, evalIT, Res.bind_ok, Res.bind_bad, Res.bind_exc, Res.tame_ok, Fl.go_next, Fl.go_ret, Fl.fin_next, Fl.fin_ret, slot_some, List.getElem?_cons_zero, List.getElem?_cons_succ, List.set_cons_zero, List.set_cons_succ, put_nm, put_tu, puts_nil, puts_cons, chainK_t, chainK_f, truth_bool, truth_none, truth_int, truth_list, truth_tuple, truth_str, o2_add_i, o2_sub_i, o2_lt_i, o2_le_i, o2_gt_i, o2_ge_i, o2_is_n, o2_is_b, o2_isnot_n, o2_isnot_b, o2_eq_i, o2_eq_s, o2_eq_ns, o2_eq_b, o2_ne_b, o2_idx_t0, o2_idx_t1, o1_len_scr, o1_len_t, o1_len_l, o1_len_s, o1_not_b, o1_tuple_l, o1_list_t, o1_list_l, o1_rev_t, o1_neg_i, o1_int_b, isi_s, isi_i, isi_b, isi_n, isi_t, isi_l, isTy, isNone_n, isNone_b, isNone_i, isNone_s, isNone_t, isNone_l, isBool_b, Bool.not_true, Bool.not_false, eq_self, if_true, if_false, Bool.false_eq_true, reduceIte, beq_self_eq_true, hc, o1_all]) fun t => ?_) (by simp only [areNames, namesOk, decide_eq_true q, Bool.true_and])
      exact call1 (hv none) (unlikeT_eq n ds t hl)
  | dict _ => simp [noDict] at nd
  | _ => simp only [evalSs, evalS, evalE, evalEs, evalIT, Res.bind_ok, Res.bind_bad, Res.bind_exc, Res.tame_ok, Fl.go_next, Fl.go_ret, Fl.fin_next, Fl.fin_ret, slot_some, List.getElem?_cons_zero, List.getElem?_cons_succ, List.set_cons_zero, List.set_cons_succ, put_nm, put_tu, puts_nil, puts_cons, chainK_t, chainK_f, truth_bool, truth_none, truth_int, truth_list, truth_tuple, truth_str, o2_add_i, o2_sub_i, o2_lt_i, o2_le_i, o2_gt_i, o2_ge_i, o2_is_n, o2_is_b, o2_isnot_n, o2_isnot_b, o2_eq_i, o2_eq_s, o2_eq_ns, o2_eq_b, o2_ne_b, o2_idx_t0, o2_idx_t1, o1_len_scr, o1_len_t, o1_len_l, o1_len_s, o1_not_b, o1_tuple_l, o1_list_t, o1_list_l, o1_rev_t, o1_neg_i, o1_int_b, isi_s, isi_i, isi_b, isi_n, isi_t, isi_l, isTy, isNone_n, isNone_b, isNone_i, isNone_s, isNone_t, isNone_l, isBool_b, Bool.not_true, Bool.not_false, eq_self, if_true, if_false, Bool.false_eq_true, reduceIte, beq_self_eq_true, f_are_names, areNames]
def tupN (k : Nat) : D → Bool
  | .tuple es => decide (es.length = k)
  | _ => false
def allTup (k : Nat) : D → Bool
  | .tuple ds => ds.all (tupN k)
  | _ => false
theorem tuplesN_eq (n : Nat) (d : D) (k : Nat) (h : noDict d = true) : callF defs (n + 1) F.are_tuples [d, .int k] = .ok (.bool (allTup k d)) := by
  rw [u_are_tuples]
  cases d with
  | tuple ds =>
    have hc : evalE (callF defs n) c_are_tuples_0 [some (.tuple ds), some (.int k), none] = .ok (.list (ds.map fun d => .bool (tupN k d))) := by
      unfold c_are_tuples_0
      refine comp_nm (by simp only [evalSs, evalS, evalE, evalEs, evalIT, Res.bind_ok, Res.bind_bad, Res.bind_exc, Res.tame_ok, Fl.go_next, Fl.go_ret, Fl.fin_next, Fl.fin_ret, slot_some, List.getElem?_cons_zero, List.getElem?_cons_succ, List.set_cons_zero, List.set_cons_succ, put_nm, put_tu, puts_nil, puts_cons, chainK_t, chainK_f, truth_bool, truth_none, truth_int, truth_list, truth_tuple, truth_str, o2_add_i, o2_sub_i, o2_lt_i, o2_le_i, o2_gt_i, o2_ge_i, o2_is_n, o2_is_b, o2_isnot_n, o2_isnot_b, o2_eq_i, o2_eq_s, o2_eq_ns, o2_eq_b, o2_ne_b, o2_idx_t0, o2_idx_t1, o1_len_scr, o1_len_t, o1_len_l, o1_len_s, o1_not_b, o1_tuple_l, o1_list_t, o1_list_l, o1_rev_t, o1_neg_i, o1_int_b, isi_s, isi_i, isi_b, isi_n, isi_t, isi_l, isTy, isNone_n, isNone_b, isNone_i, isNone_s, isNone_t, isNone_l, isBool_b, Bool.not_true, Bool.not_false, eq_self, if_true, if_false, Bool.false_eq_true, reduceIte, beq_self_eq_true, itemsOf]) fun d hd => ?_
      have hn := noDicts_mem (show noDicts ds = true by simpa [noDict] using h) hd
      cases d with
      | tuple es => simp only [evalSs, evalS, evalE, evalEs, evalIT, Res.bind_ok, Res.bind_bad, Res.bind_exc, Res.tame_ok, Fl.go_next, Fl.go_ret, Fl.fin_next, Fl.fin_ret, slot_some, List.getElem?_cons_zero, List.getElem?_cons_succ, List.set_cons_zero, List.set_cons_succ, put_nm, put_tu, puts_nil, puts_cons, chainK_t, chainK_f, truth_bool, truth_none, truth_int, truth_list, truth_tuple, truth_str, o2_add_i, o2_sub_i, o2_lt_i, o2_le_i, o2_gt_i, o2_ge_i, o2_is_n, o2_is_b, o2_isnot_n, o2_isnot_b, o2_eq_i, o2_eq_s, o2_eq_ns, o2_eq_b, o2_ne_b, o2_idx_t0, o2_idx_t1, o1_len_scr, o1_len_t, o1_len_l, o1_len_s, o1_not_b, o1_tuple_l, o1_list_t, o1_list_l, o1_rev_t, o1_neg_i, o1_int_b, isi_s, isi_i, isi_b, isi_n, isi_t, isi_l, isTy, isNone_n, isNone_b, isNone_i, isNone_s, isNone_t, isNone_l, isBool_b, Bool.not_true, Bool.not_false, eq_self, if_true, if_false, Bool.false_eq_true, reduceIte, beq_self_eq_true, int_eq, tupN]
      | dict _ => simp [noDict] at hn
      | _ => simp only [evalSs, evalS, evalE, evalEs, evalIT, Res.bind_ok, Res.bind_bad, Res.bind_exc, Res.tame_ok, Fl.go_next, Fl.go_ret, Fl.fin_next, Fl.fin_ret, slot_some, List.getElem?_cons_zero, List.getElem?_cons_succ, List.set_cons_zero, List.set_cons_succ, put_nm, put_tu, puts_nil, puts_cons, chainK_t, chainK_f, truth_bool, truth_none, truth_int, truth_list, truth_tuple, truth_str, o2_add_i, o2_sub_i, o2_lt_i, o2_le_i, o2_gt_i, o2_ge_i, o2_is_n, o2_is_b, o2_isnot_n, o2_isnot_b, o2_eq_i, o2_eq_s, o2_eq_ns, o2_eq_b, o2_ne_b, o2_idx_t0, o2_idx_t1, o1_len_scr, o1_len_t, o1_len_l, o1_len_s, o1_not_b, o1_tuple_l, o1_list_t, o1_list_l, o1_rev_t, o1_neg_i, o1_int_b, isi_s, isi_i, isi_b, isi_n, isi_t, isi_l, isTy, isNone_n, isNone_b, isNone_i, isNone_s, isNone_t, isNone_l, isBool_b, Bool.not_true, Bool.not_false, eq_self, if_true, if_false, Bool.false_eq_true, reduceIte, beq_self_eq_true, tupN]
    simp only [evalSs, evalS, evalE, evalEs, evalIT, Res.bind_ok, Res.bind_bad, Res.bind_exc, Res.tame_ok, Fl.go_next, Fl.go_ret, Fl.fin_next, Fl.fin_ret, slot_some, List.getElem?_cons_zero, List.getElem?_cons_succ, List.set_cons_zero, List.set_cons_succ, put_nm, put_tu, puts_nil, puts_cons, chainK_t, chainK_f, truth_bool, truth_none, truth_int, truth_list, truth_tuple, truth_str, o2_add_i, o2_sub_i, o2_lt_i, o2_le_i, o2_gt_i, o2_ge_i, o2_is_n, o2_is_b, o2_isnot_n, o2_isnot_b, o2_eq_i, o2_eq_s, o2_eq_ns, o2_eq_b, o2_ne_b, o2_idx_t0, o2_idx_t1, o1_len_scr, o1_len_t, o1_len_l, o1_len_s, o1_not_b, o1_tuple_l, o1_list_t, o1_list_l, o1_rev_t, o1_neg_i, o1_int_b, isi_s, isi_i, isi_b, isi_n, isi_t, isi_l, isTy, isNone_n, isNone_b, isNone_i, isNone_s, isNone_t, isNone_l, isBool_b, Bool.not_true, Bool.not_false, eq_self, if_true, if_false, Bool.false_eq_true, reduceIte, beq_self_eq_true, f_are_tuples, hc, o1_all, allTup]
  | dict _ => simp [noDict] at h
  | _ => simp only [evalSs, evalS, evalE, evalEs, evalIT, Res.bind_ok, Res.bind_bad, Res.bind_exc, Res.tame_ok, Fl.go_next, Fl.go_ret, Fl.fin_next, Fl.fin_ret, slot_some, List.getElem?_cons_zero, List.getElem?_cons_succ, List.set_cons_zero, List.set_cons_succ, put_nm, put_tu, puts_nil, puts_cons, chainK_t, chainK_f, truth_bool, truth_none, truth_int, truth_list, truth_tuple, truth_str, o2_add_i, o2_sub_i, o2_lt_i, o2_le_i, o2_gt_i, o2_ge_i, o2_is_n, o2_is_b, o2_isnot_n, o2_isnot_b, o2_eq_i, o2_eq_s, o2_eq_ns, o2_eq_b, o2_ne_b, o2_idx_t0, o2_idx_t1, o1_len_scr, o1_len_t, o1_len_l, o1_len_s, o1_not_b, o1_tuple_l, o1_list_t, o1_list_l, o1_rev_t, o1_neg_i, o1_int_b, isi_s, isi_i, isi_b, isi_n, isi_t, isi_l, isTy, isNone_n, isNone_b, isNone_i, isNone_s, isNone_t, isNone_l, isBool_b, Bool.not_true, Bool.not_false, eq_self, if_true, if_false, Bool.false_eq_true, reduceIte, beq_self_eq_true, f_are_tuples, allTup]
def at0 : D → D
  | .tuple (a :: _) => a
  | _ => .none
def at1 : D → D
  | .tuple (_ :: b :: _) => b
  | _ => .none
def wayOk (d : D) : Bool := inWords [w_up, w_down] (at1 d)
def keysOk : D → Bool
  | .tuple ds => !ds.isEmpty && ds.all (tupN 2) && ds.all wayOk && namesOk (ds.map at0)
  | _ => false
def pairsOk : D → Bool
  | .tuple ds => !ds.isEmpty && ds.all (tupN 2) && namesOk (ds.map at0) && namesOk (ds.map at1)
  | _ => false
theorem tup2_shape {d : D} (h : tupN 2 d = true) : ∃ a b, d = .tuple [a, b] := by
  cases d with
  | tuple es =>
    have h : es.length = 2 := of_decide_eq_true h
    obtain ⟨a, b, rfl⟩ := (len2 es).mp h
    exact ⟨a, b, rfl⟩
  | _ => cases h
theorem map_fine {ds : List D} (hf : fine 1000 (.tuple ds) = true) (h2 : ds.all (tupN 2) = true) : fine 1000 (.tuple (ds.map at0)) = true ∧ fine 1000 (.tuple (ds.map at1)) = true := by
  obtain ⟨h1, h3⟩ := fine_tuple.mp hf
  have sh : ∀ d ∈ ds, fine 1000 (at0 d) = true ∧ fine 1000 (at1 d) = true := fun d hd => by
    have fd := h3 d hd
    obtain ⟨a, b, rfl⟩ := tup2_shape (List.all_eq_true.mp h2 d hd)
    exact ⟨(fine_tuple.mp fd).2 a (by simp), (fine_tuple.mp fd).2 b (by simp)⟩
  constructor
  · rw [fine_tuple]
    refine ⟨by rw [List.length_map]; exact h1, fun x hx => ?_⟩
    obtain ⟨d, hd, rfl⟩ := List.mem_map.mp hx
    exact (sh d hd).1
  · rw [fine_tuple]
    refine ⟨by rw [List.length_map]; exact h1, fun x hx => ?_⟩
    obtain ⟨d, hd, rfl⟩ := List.mem_map.mp hx
    exact (sh d hd).2
theorem areNames1 {ds : List D} (h : ds.isEmpty = false) : areNames 1 (.tuple ds) = namesOk ds := by
  have : 1 ≤ ds.length := by cases ds with | nil => cases h | cons _ _ => simp
  simp only [areNames, decide_eq_true this, Bool.true_and]
theorem are_keys_eq (n : Nat) (d : D) (hf : fine 1000 d = true) : callF defs (n + 3) F.are_keys [d] = .ok (.bool (keysOk d)) := by
  rw [u_are_keys]
  have nd := fine_noDict d hf
  have ht : callF defs (n + 2) F.are_tuples [d, .int 2] = .ok (.bool (allTup 2 d)) := tuplesN_eq (n + 1) d 2 nd
  cases d with
  | tuple ds =>
    refine fin_of (seq_if (or_b (x := !ds.all (tupN 2)) (y := ds.isEmpty) (not_b (call2 (by simp only [evalSs, evalS, evalE, evalEs, evalIT, Res.bind_ok, Res.bind_bad, Res.bind_exc, Res.tame_ok, Fl.go_next, Fl.go_ret, Fl.fin_next, Fl.fin_ret, slot_some, List.getElem?_cons_zero, List.getElem?_cons_succ, List.set_cons_zero, List.set_cons_succ, put_nm, put_tu, puts_nil, puts_cons, chainK_t, chainK_f, truth_bool, truth_none, truth_int, truth_list, truth_tuple, truth_str, o2_add_i, o2_sub_i, o2_lt_i, o2_le_i, o2_gt_i, o2_ge_i, o2_is_n, o2_is_b, o2_isnot_n, o2_isnot_b, o2_eq_i, o2_eq_s, o2_eq_ns, o2_eq_b, o2_ne_b, o2_idx_t0, o2_idx_t1, o1_len_scr, o1_len_t, o1_len_l, o1_len_s, o1_not_b, o1_tuple_l, o1_list_t, o1_list_l, o1_rev_t, o1_neg_i, o1_int_b, isi_s, isi_i, isi_b, isi_n, isi_t, isi_l, isTy, isNone_n, isNone_b, isNone_i, isNone_s, isNone_t, isNone_l, isBool_b, Bool.not_true, Bool.not_false, eq_self, if_true, if_false, Bool.false_eq_true, reduceIte, beq_self_eq_true] <;> rfl) (by simp only [evalSs, evalS, evalE, evalEs, evalIT, Res.bind_ok, Res.bind_bad, Res.bind_exc, Res.tame_ok, Fl.go_next, Fl.go_ret, Fl.fin_next, Fl.fin_ret, slot_some, List.getElem?_cons_zero, List.getElem?_cons_succ, List.set_cons_zero, List.set_cons_succ, put_nm, put_tu, puts_nil, puts_cons, chainK_t, chainK_f, truth_bool, truth_none, truth_int, truth_list, truth_tuple, truth_str, o2_add_i, o2_sub_i, o2_lt_i, o2_le_i, o2_gt_i, o2_ge_i, o2_is_n, o2_is_b, o2_isnot_n, o2_isnot_b, o2_eq_i, o2_eq_s, o2_eq_ns, o2_eq_b, o2_ne_b, o2_idx_t0, o2_idx_t1, o1_len_scr, o1_len_t, o1_len_l, o1_len_s, o1_not_b, o1_tuple_l, o1_list_t, o1_list_l, o1_rev_t, o1_neg_i, o1_int_b, isi_s, isi_i, isi_b, isi_n, isi_t, isi_l, isTy, isNone_n, isNone_b, isNone_i, isNone_s, isNone_t, isNone_l, isBool_b, Bool.not_true, Bool.not_false, eq_self, if_true, if_false, Bool.false_eq_true, reduceIte, beq_self_eq_true] <;> rfl) ht)) fun _ => by simp only [evalSs, evalS, evalE, evalEs, evalIT, Res.bind_ok, Res.bind_bad, Res.bind_exc, Res.tame_ok, Fl.go_next, Fl.go_ret, Fl.fin_next, Fl.fin_ret, slot_some, List.getElem?_cons_zero, List.getElem?_cons_succ, List.set_cons_zero, List.set_cons_succ, put_nm, put_tu, puts_nil, puts_cons, chainK_t, chainK_f, truth_bool, truth_none, truth_int, truth_list, truth_tuple, truth_str, o2_add_i, o2_sub_i, o2_lt_i, o2_le_i, o2_gt_i, o2_ge_i, o2_is_n, o2_is_b, o2_isnot_n, o2_isnot_b, o2_eq_i, o2_eq_s, o2_eq_ns, o2_eq_b, o2_ne_b, o2_idx_t0, o2_idx_t1, o1_len_scr, o1_len_t, o1_len_l, o1_len_s, o1_not_b, o1_tuple_l, o1_list_t, o1_list_l, o1_rev_t, o1_neg_i, o1_int_b, isi_s, isi_i, isi_b, isi_n, isi_t, isi_l, isTy, isNone_n, isNone_b, isNone_i, isNone_s, isNone_t, isNone_l, isBool_b, Bool.not_true, Bool.not_false, eq_self, if_true, if_false, Bool.false_eq_true, reduceIte, beq_self_eq_true, len0]) (fun t => ?_) fun f => ?_)
    · refine ret_b (x := false) (by simp only [evalSs, evalS, evalE, evalEs, evalIT, Res.bind_ok, Res.bind_bad, Res.bind_exc, Res.tame_ok, Fl.go_next, Fl.go_ret, Fl.fin_next, Fl.fin_ret, slot_some, List.getElem?_cons_zero, List.getElem?_cons_succ, List.set_cons_zero, List.set_cons_succ, put_nm, put_tu, puts_nil, puts_cons, chainK_t, chainK_f, truth_bool, truth_none, truth_int, truth_list, truth_tuple, truth_str, o2_add_i, o2_sub_i, o2_lt_i, o2_le_i, o2_gt_i, o2_ge_i, o2_is_n, o2_is_b, o2_isnot_n, o2_isnot_b, o2_eq_i, o2_eq_s, o2_eq_ns, o2_eq_b, o2_ne_b, o2_idx_t0, o2_idx_t1, o1_len_scr, o1_len_t, o1_len_l, o1_len_s, o1_not_b, o1_tuple_l, o1_list_t, o1_list_l, o1_rev_t, o1_neg_i, o1_int_b, isi_s, isi_i, isi_b, isi_n, isi_t, isi_l, isTy, isNone_n, isNone_b, isNone_i, isNone_s, isNone_t, isNone_l, isBool_b, Bool.not_true, Bool.not_false, eq_self, if_true, if_false, Bool.false_eq_true, reduceIte, beq_self_eq_true]) ?_
      simp only [keysOk]
      rcases Bool.or_eq_true _ _ ▸ t with q | q
      · have : ds.all (tupN 2) = false := by simpa using q
        rw [this]; simp
      · rw [q]; simp
    · obtain ⟨f1, f2⟩ := Bool.or_eq_false_iff.mp f
      have f1 : ds.all (tupN 2) = true := by simpa using f1
      have hc : evalE (callF defs (n + 2)) c_are_keys_0 [some (.tuple ds), none, none] = .ok (.list (ds.map fun d => .bool (wayOk d))) := by
        unfold c_are_keys_0
        refine comp_any (by simp only [evalSs, evalS, evalE, evalEs, evalIT, Res.bind_ok, Res.bind_bad, Res.bind_exc, Res.tame_ok, Fl.go_next, Fl.go_ret, Fl.fin_next, Fl.fin_ret, slot_some, List.getElem?_cons_zero, List.getElem?_cons_succ, List.set_cons_zero, List.set_cons_succ, put_nm, put_tu, puts_nil, puts_cons, chainK_t, chainK_f, truth_bool, truth_none, truth_int, truth_list, truth_tuple, truth_str, o2_add_i, o2_sub_i, o2_lt_i, o2_le_i, o2_gt_i, o2_ge_i, o2_is_n, o2_is_b, o2_isnot_n, o2_isnot_b, o2_eq_i, o2_eq_s, o2_eq_ns, o2_eq_b, o2_ne_b, o2_idx_t0, o2_idx_t1, o1_len_scr, o1_len_t, o1_len_l, o1_len_s, o1_not_b, o1_tuple_l, o1_list_t, o1_list_l, o1_rev_t, o1_neg_i, o1_int_b, isi_s, isi_i, isi_b, isi_n, isi_t, isi_l, isTy, isNone_n, isNone_b, isNone_i, isNone_s, isNone_t, isNone_l, isBool_b, Bool.not_true, Bool.not_false, eq_self, if_true, if_false, Bool.false_eq_true, reduceIte, beq_self_eq_true, itemsOf]) fun d hd => ?_
        have fd := (fine_tuple.mp hf).2 d hd
        obtain ⟨a, b, rfl⟩ := tup2_shape (List.all_eq_true.mp f1 d hd)
        have nb := fine_noDict b ((fine_tuple.mp fd).2 b (by simp))
        have i2 : op2 .in_ b (.tuple [.str w_up, .str w_down]) = .ok (.bool (inWords [w_up, w_down] b)) := in_words b [w_up, w_down] nb
        refine ⟨_, by simp only [evalSs, evalS, evalE, evalEs, evalIT, Res.bind_ok, Res.bind_bad, Res.bind_exc, Res.tame_ok, Fl.go_next, Fl.go_ret, Fl.fin_next, Fl.fin_ret, slot_some, List.getElem?_cons_zero, List.getElem?_cons_succ, List.set_cons_zero, List.set_cons_succ, put_nm, put_tu, puts_nil, puts_cons, chainK_t, chainK_f, truth_bool, truth_none, truth_int, truth_list, truth_tuple, truth_str, o2_add_i, o2_sub_i, o2_lt_i, o2_le_i, o2_gt_i, o2_ge_i, o2_is_n, o2_is_b, o2_isnot_n, o2_isnot_b, o2_eq_i, o2_eq_s, o2_eq_ns, o2_eq_b, o2_ne_b, o2_idx_t0, o2_idx_t1, o1_len_scr, o1_len_t, o1_len_l, o1_len_s, o1_not_b, o1_tuple_l, o1_list_t, o1_list_l, o1_rev_t, o1_neg_i, o1_int_b, isi_s, isi_i, isi_b, isi_n, isi_t, isi_l, isTy, isNone_n, isNone_b, isNone_i, isNone_s, isNone_t, isNone_l, isBool_b, Bool.not_true, Bool.not_false, eq_self, if_true, if_false, Bool.false_eq_true, reduceIte, beq_self_eq_true] <;> rfl, ?_⟩
        cases b with
        | dict _ => simp [noDict] at nb
        | str x => simp only [evalSs, evalS, evalE, evalEs, evalIT, Res.bind_ok, Res.bind_bad, Res.bind_exc, Res.tame_ok, Fl.go_next, Fl.go_ret, Fl.fin_next, Fl.fin_ret, slot_some, List.getElem?_cons_zero, List.getElem?_cons_succ, List.set_cons_zero, List.set_cons_succ, put_nm, put_tu, puts_nil, puts_cons, chainK_t, chainK_f, truth_bool, truth_none, truth_int, truth_list, truth_tuple, truth_str, o2_add_i, o2_sub_i, o2_lt_i, o2_le_i, o2_gt_i, o2_ge_i, o2_is_n, o2_is_b, o2_isnot_n, o2_isnot_b, o2_eq_i, o2_eq_s, o2_eq_ns, o2_eq_b, o2_ne_b, o2_idx_t0, o2_idx_t1, o1_len_scr, o1_len_t, o1_len_l, o1_len_s, o1_not_b, o1_tuple_l, o1_list_t, o1_list_l, o1_rev_t, o1_neg_i, o1_int_b, isi_s, isi_i, isi_b, isi_n, isi_t, isi_l, isTy, isNone_n, isNone_b, isNone_i, isNone_s, isNone_t, isNone_l, isBool_b, Bool.not_true, Bool.not_false, eq_self, if_true, if_false, Bool.false_eq_true, reduceIte, beq_self_eq_true, i2, wayOk, at1]
        | _ => simp only [evalSs, evalS, evalE, evalEs, evalIT, Res.bind_ok, Res.bind_bad, Res.bind_exc, Res.tame_ok, Fl.go_next, Fl.go_ret, Fl.fin_next, Fl.fin_ret, slot_some, List.getElem?_cons_zero, List.getElem?_cons_succ, List.set_cons_zero, List.set_cons_succ, put_nm, put_tu, puts_nil, puts_cons, chainK_t, chainK_f, truth_bool, truth_none, truth_int, truth_list, truth_tuple, truth_str, o2_add_i, o2_sub_i, o2_lt_i, o2_le_i, o2_gt_i, o2_ge_i, o2_is_n, o2_is_b, o2_isnot_n, o2_isnot_b, o2_eq_i, o2_eq_s, o2_eq_ns, o2_eq_b, o2_ne_b, o2_idx_t0, o2_idx_t1, o1_len_scr, o1_len_t, o1_len_l, o1_len_s, o1_not_b, o1_tuple_l, o1_list_t, o1_list_l, o1_rev_t, o1_neg_i, o1_int_b, isi_s, isi_i, isi_b, isi_n, isi_t, isi_l, isTy, isNone_n, isNone_b, isNone_i, isNone_s, isNone_t, isNone_l, isBool_b, Bool.not_true, Bool.not_false, eq_self, if_true, if_false, Bool.false_eq_true, reduceIte, beq_self_eq_true, wayOk, at1, inWords]
      have hc1 : evalE (callF defs (n + 2)) c_are_keys_1 [some (.tuple ds), none, none] = .ok (.list (ds.map at0)) := by
        unfold c_are_keys_1
        refine comp_any (by simp only [evalSs, evalS, evalE, evalEs, evalIT, Res.bind_ok, Res.bind_bad, Res.bind_exc, Res.tame_ok, Fl.go_next, Fl.go_ret, Fl.fin_next, Fl.fin_ret, slot_some, List.getElem?_cons_zero, List.getElem?_cons_succ, List.set_cons_zero, List.set_cons_succ, put_nm, put_tu, puts_nil, puts_cons, chainK_t, chainK_f, truth_bool, truth_none, truth_int, truth_list, truth_tuple, truth_str, o2_add_i, o2_sub_i, o2_lt_i, o2_le_i, o2_gt_i, o2_ge_i, o2_is_n, o2_is_b, o2_isnot_n, o2_isnot_b, o2_eq_i, o2_eq_s, o2_eq_ns, o2_eq_b, o2_ne_b, o2_idx_t0, o2_idx_t1, o1_len_scr, o1_len_t, o1_len_l, o1_len_s, o1_not_b, o1_tuple_l, o1_list_t, o1_list_l, o1_rev_t, o1_neg_i, o1_int_b, isi_s, isi_i, isi_b, isi_n, isi_t, isi_l, isTy, isNone_n, isNone_b, isNone_i, isNone_s, isNone_t, isNone_l, isBool_b, Bool.not_true, Bool.not_false, eq_self, if_true, if_false, Bool.false_eq_true, reduceIte, beq_self_eq_true, itemsOf]) fun d hd => ?_
        obtain ⟨a, b, rfl⟩ := tup2_shape (List.all_eq_true.mp f1 d hd)
        exact ⟨_, by simp only [evalSs, evalS, evalE, evalEs, evalIT, Res.bind_ok, Res.bind_bad, Res.bind_exc, Res.tame_ok, Fl.go_next, Fl.go_ret, Fl.fin_next, Fl.fin_ret, slot_some, List.getElem?_cons_zero, List.getElem?_cons_succ, List.set_cons_zero, List.set_cons_succ, put_nm, put_tu, puts_nil, puts_cons, chainK_t, chainK_f, truth_bool, truth_none, truth_int, truth_list, truth_tuple, truth_str, o2_add_i, o2_sub_i, o2_lt_i, o2_le_i, o2_gt_i, o2_ge_i, o2_is_n, o2_is_b, o2_isnot_n, o2_isnot_b, o2_eq_i, o2_eq_s, o2_eq_ns, o2_eq_b, o2_ne_b, o2_idx_t0, o2_idx_t1, o1_len_scr, o1_len_t, o1_len_l, o1_len_s, o1_not_b, o1_tuple_l, o1_list_t, o1_list_l, o1_rev_t, o1_neg_i, o1_int_b, isi_s, isi_i, isi_b, isi_n, isi_t, isi_l, isTy, isNone_n, isNone_b, isNone_i, isNone_s, isNone_t, isNone_l, isBool_b, Bool.not_true, Bool.not_false, eq_self, if_true, if_false, Bool.false_eq_true, reduceIte, beq_self_eq_true] <;> rfl, by simp only [evalSs, evalS, evalE, evalEs, evalIT, Res.bind_ok, Res.bind_bad, Res.bind_exc, Res.tame_ok, Fl.go_next, Fl.go_ret, Fl.fin_next, Fl.fin_ret, slot_some, List.getElem?_cons_zero, List.getElem?_cons_succ, List.set_cons_zero, List.set_cons_succ, put_nm, put_tu, puts_nil, puts_cons, chainK_t, chainK_f, truth_bool, truth_none, truth_int, truth_list, truth_tuple, truth_str, o2_add_i, o2_sub_i, o2_lt_i, o2_le_i, o2_gt_i, o2_ge_i, o2_is_n, o2_is_b, o2_isnot_n, o2_isnot_b, o2_eq_i, o2_eq_s, o2_eq_ns, o2_eq_b, o2_ne_b, o2_idx_t0, o2_idx_t1, o1_len_scr, o1_len_t, o1_len_l, o1_len_s, o1_not_b, o1_tuple_l, o1_list_t, o1_list_l, o1_rev_t, o1_neg_i, o1_int_b, isi_s, isi_i, isi_b, isi_n, isi_t, isi_l, isTy, isNone_n, isNone_b, isNone_i, isNone_s, isNone_t, isNone_l, isBool_b, Bool.not_true, Bool.not_false, eq_self, if_true, if_false, Bool.false_eq_true, reduceIte, beq_self_eq_true, at0]⟩
      have hn : callF defs (n + 2) F.are_names [.tuple (ds.map at0), .int 1] = .ok (.bool (namesOk (ds.map at0))) := by
        have := are_names_eq n (.tuple (ds.map at0)) 1 (map_fine hf f1).1
        rw [areNames1 (by rw [isEmpty_map]; exact f2)] at this
        exact this
      refine seq_if (x := !ds.all wayOk) (by simp only [evalSs, evalS, evalE, evalEs, evalIT, Res.bind_ok, Res.bind_bad, Res.bind_exc, Res.tame_ok, Fl.go_next, Fl.go_ret, Fl.fin_next, Fl.fin_ret, slot_some, List.getElem?_cons_zero, List.getElem?_cons_succ, List.set_cons_zero, List.set_cons_succ, put_nm, put_tu, puts_nil, puts_cons, chainK_t, chainK_f, truth_bool, truth_none, truth_int, truth_list, truth_tuple, truth_str, o2_add_i, o2_sub_i, o2_lt_i, o2_le_i, o2_gt_i, o2_ge_i, o2_is_n, o2_is_b, o2_isnot_n, o2_isnot_b, o2_eq_i, o2_eq_s, o2_eq_ns, o2_eq_b, o2_ne_b, o2_idx_t0, o2_idx_t1, o1_len_scr, o1_len_t, o1_len_l, o1_len_s, o1_not_b, o1_tuple_l, o1_list_t, o1_list_l, o1_rev_t, o1_neg_i, o1_int_b, isi_s, isi_i, isi_b, isi_n, isi_t, isi_l, isTy, isNone_n, isNone_b, isNone_i, isNone_s, isNone_t, isNone_l, isBool_b, Bool.not_true, Bool.not_false, eq_self, if_true, if_false, Bool.false_eq_true, reduceIte, beq_self_eq_true, hc, o1_all]) (fun t => ?_) fun f => ?_
      · have t : ds.all wayOk = false := by simpa using t
        refine ret_b (x := false) (by simp only [evalSs, evalS, evalE, evalEs, evalIT, Res.bind_ok, Res.bind_bad, Res.bind_exc, Res.tame_ok, Fl.go_next, Fl.go_ret, Fl.fin_next, Fl.fin_ret, slot_some, List.getElem?_cons_zero, List.getElem?_cons_succ, List.set_cons_zero, List.set_cons_succ, put_nm, put_tu, puts_nil, puts_cons, chainK_t, chainK_f, truth_bool, truth_none, truth_int, truth_list, truth_tuple, truth_str, o2_add_i, o2_sub_i, o2_lt_i, o2_le_i, o2_gt_i, o2_ge_i, o2_is_n, o2_is_b, o2_isnot_n, o2_isnot_b, o2_eq_i, o2_eq_s, o2_eq_ns, o2_eq_b, o2_ne_b, o2_idx_t0, o2_idx_t1, o1_len_scr, o1_len_t, o1_len_l, o1_len_s, o1_not_b, o1_tuple_l, o1_list_t, o1_list_l, o1_rev_t, o1_neg_i, o1_int_b, isi_s, isi_i, isi_b, isi_n, isi_t, isi_l, isTy, isNone_n, isNone_b, isNone_i, isNone_s, isNone_t, isNone_l, isBool_b, Bool.not_true, Bool.not_false, eq_self, if_true, if_false, Bool.false_eq_true, reduceIte, beq_self_eq_true]) ?_
        simp only [keysOk, t, Bool.and_false, Bool.false_and]
      · have f : ds.all wayOk = true := by simpa using f
        refine ret_b (x := namesOk (ds.map at0)) (by simp only [evalSs, evalS, evalE, evalEs, evalIT, Res.bind_ok, Res.bind_bad, Res.bind_exc, Res.tame_ok, Fl.go_next, Fl.go_ret, Fl.fin_next, Fl.fin_ret, slot_some, List.getElem?_cons_zero, List.getElem?_cons_succ, List.set_cons_zero, List.set_cons_succ, put_nm, put_tu, puts_nil, puts_cons, chainK_t, chainK_f, truth_bool, truth_none, truth_int, truth_list, truth_tuple, truth_str, o2_add_i, o2_sub_i, o2_lt_i, o2_le_i, o2_gt_i, o2_ge_i, o2_is_n, o2_is_b, o2_isnot_n, o2_isnot_b, o2_eq_i, o2_eq_s, o2_eq_ns, o2_eq_b, o2_ne_b, o2_idx_t0, o2_idx_t1, o1_len_scr, o1_len_t, o1_len_l, o1_len_s, o1_not_b, o1_tuple_l, o1_list_t, o1_list_l, o1_rev_t, o1_neg_i, o1_int_b, isi_s, isi_i, isi_b, isi_n, isi_t, isi_l, isTy, isNone_n, isNone_b, isNone_i, isNone_s, isNone_t, isNone_l, isBool_b, Bool.not_true, Bool.not_false, eq_self, if_true, if_false, Bool.false_eq_true, reduceIte, beq_self_eq_true, hc1, hn]) ?_
        simp only [keysOk, f1, f2, f, Bool.not_false, Bool.true_and]
  | dict _ => simp [noDict] at nd
  | _ => simp only [evalSs, evalS, evalE, evalEs, evalIT, Res.bind_ok, Res.bind_bad, Res.bind_exc, Res.tame_ok, Fl.go_next, Fl.go_ret, Fl.fin_next, Fl.fin_ret, slot_some, List.getElem?_cons_zero, List.getElem?_cons_succ, List.set_cons_zero, List.set_cons_succ, put_nm, put_tu, puts_nil, puts_cons, chainK_t, chainK_f, truth_bool, truth_none, truth_int, truth_list, truth_tuple, truth_str, o2_add_i, o2_sub_i, o2_lt_i, o2_le_i, o2_gt_i, o2_ge_i, o2_is_n, o2_is_b, o2_isnot_n, o2_isnot_b, o2_eq_i, o2_eq_s, o2_eq_ns, o2_eq_b, o2_ne_b, o2_idx_t0, o2_idx_t1, o1_len_scr, o1_len_t, o1_len_l, o1_len_s, o1_not_b, o1_tuple_l, o1_list_t, o1_list_l, o1_rev_t, o1_neg_i, o1_int_b, isi_s, isi_i, isi_b, isi_n, isi_t, isi_l, isTy, isNone_n, isNone_b, isNone_i, isNone_s, isNone_t, isNone_l, isBool_b, Bool.not_true, Bool.not_false, eq_self, if_true, if_false, Bool.false_eq_true, reduceIte, beq_self_eq_true, f_are_keys, ht, allTup, keysOk]
theorem are_pairs_eq (n : Nat) (d : D) (hf : fine 1000 d = true) : callF defs (n + 3) F.are_pairs [d] = .ok (.bool (pairsOk d)) := by
  rw [u_are_pairs]
  have nd := fine_noDict d hf
  have ht : callF defs (n + 2) F.are_tuples [d, .int 2] = .ok (.bool (allTup 2 d)) := tuplesN_eq (n + 1) d 2 nd
  cases d with
  | tuple ds =>
    refine fin_of (seq_if (or_b (x := !ds.all (tupN 2)) (y := ds.isEmpty) (not_b (call2 (by simp only [evalSs, evalS, evalE, evalEs, evalIT, Res.bind_ok, Res.bind_bad, Res.bind_exc, Res.tame_ok, Fl.go_next, Fl.go_ret, Fl.fin_next, Fl.fin_ret, slot_some, List.getElem?_cons_zero, List.getElem?_cons_succ, List.set_cons_zero, List.set_cons_succ, put_nm, put_tu, puts_nil, puts_cons, chainK_t, chainK_f, truth_bool, truth_none, truth_int, truth_list, truth_tuple, truth_str, o2_add_i, o2_sub_i, o2_lt_i, o2_le_i, o2_gt_i, o2_ge_i, o2_is_n, o2_is_b, o2_isnot_n, o2_isnot_b, o2_eq_i, o2_eq_s, o2_eq_ns, o2_eq_b, o2_ne_b, o2_idx_t0, o2_idx_t1, o1_len_scr, o1_len_t, o1_len_l, o1_len_s, o1_not_b, o1_tuple_l, o1_list_t, o1_list_l, o1_rev_t, o1_neg_i, o1_int_b, isi_s, isi_i, isi_b, isi_n, isi_t, isi_l, isTy, isNone_n, isNone_b, isNone_i, isNone_s, isNone_t, isNone_l, isBool_b, Bool.not_true, Bool.not_false, eq_self, if_true, if_false, Bool.false_eq_true, reduceIte, beq_self_eq_true] <;> rfl) (by simp only [evalSs, evalS, evalE, evalEs, evalIT, Res.bind_ok, Res.bind_bad, Res.bind_exc, Res.tame_ok, Fl.go_next, Fl.go_ret, Fl.fin_next, Fl.fin_ret, slot_some, List.getElem?_cons_zero, List.getElem?_cons_succ, List.set_cons_zero, List.set_cons_succ, put_nm, put_tu, puts_nil, puts_cons, chainK_t, chainK_f, truth_bool, truth_none, truth_int, truth_list, truth_tuple, truth_str, o2_add_i, o2_sub_i, o2_lt_i, o2_le_i, o2_gt_i, o2_ge_i, o2_is_n, o2_is_b, o2_isnot_n, o2_isnot_b, o2_eq_i, o2_eq_s, o2_eq_ns, o2_eq_b, o2_ne_b, o2_idx_t0, o2_idx_t1, o1_len_scr, o1_len_t, o1_len_l, o1_len_s, o1_not_b, o1_tuple_l, o1_list_t, o1_list_l, o1_rev_t, o1_neg_i, o1_int_b, isi_s, isi_i, isi_b, isi_n, isi_t, isi_l, isTy, isNone_n, isNone_b, isNone_i, isNone_s, isNone_t, isNone_l, isBool_b, Bool.not_true, Bool.not_false, eq_self, if_true, if_false, Bool.false_eq_true, reduceIte, beq_self_eq_true] <;> rfl) ht)) fun _ => by simp only [evalSs, evalS, evalE, evalEs, evalIT, Res.bind_ok, Res.bind_bad, Res.bind_exc, Res.tame_ok, Fl.go_next, Fl.go_ret, Fl.fin_next, Fl.fin_ret, slot_some, List.getElem?_cons_zero, List.getElem?_cons_succ, List.set_cons_zero, List.set_cons_succ, put_nm, put_tu, puts_nil, puts_cons, chainK_t, chainK_f, truth_bool, truth_none, truth_int, truth_list, truth_tuple, truth_str, o2_add_i, o2_sub_i, o2_lt_i, o2_le_i, o2_gt_i, o2_ge_i, o2_is_n, o2_is_b, o2_isnot_n, o2_isnot_b, o2_eq_i, o2_eq_s, o2_eq_ns, o2_eq_b, o2_ne_b, o2_idx_t0, o2_idx_t1, o1_len_scr, o1_len_t, o1_len_l, o1_len_s, o1_not_b, o1_tuple_l, o1_list_t, o1_list_l, o1_rev_t, o1_neg_i, o1_int_b, isi_s, isi_i, isi_b, isi_n, isi_t, isi_l, isTy, isNone_n, isNone_b, isNone_i, isNone_s, isNone_t, isNone_l, isBool_b, Bool.not_true, Bool.not_false, eq_self, if_true, if_false, Bool.false_eq_true, reduceIte, beq_self_eq_true, len0]) (fun t => ?_) fun f => ?_)
    · refine ret_b (x := false) (by simp only [evalSs, evalS, evalE, evalEs, evalIT, Res.bind_ok, Res.bind_bad, Res.bind_exc, Res.tame_ok, Fl.go_next, Fl.go_ret, Fl.fin_next, Fl.fin_ret, slot_some, List.getElem?_cons_zero, List.getElem?_cons_succ, List.set_cons_zero, List.set_cons_succ, put_nm, put_tu, puts_nil, puts_cons, chainK_t, chainK_f, truth_bool, truth_none, truth_int, truth_list, truth_tuple, truth_str, o2_add_i, o2_sub_i, o2_lt_i, o2_le_i, o2_gt_i, o2_ge_i, o2_is_n, o2_is_b, o2_isnot_n, o2_isnot_b, o2_eq_i, o2_eq_s, o2_eq_ns, o2_eq_b, o2_ne_b, o2_idx_t0, o2_idx_t1, o1_len_scr, o1_len_t, o1_len_l, o1_len_s, o1_not_b, o1_tuple_l, o1_list_t, o1_list_l, o1_rev_t, o1_neg_i, o1_int_b, isi_s, isi_i, isi_b, isi_n, isi_t, isi_l, isTy, isNone_n, isNone_b, isNone_i, isNone_s, isNone_t, isNone_l, isBool_b, Bool.not_true, Bool.not_false, eq_self, if_true, if_false, Bool.false_eq_true, reduceIte, beq_self_eq_true]) ?_
      simp only [pairsOk]
      rcases Bool.or_eq_true _ _ ▸ t with q | q
      · have : ds.all (tupN 2) = false := by simpa using q
        rw [this]; simp
      · rw [q]; simp
    · obtain ⟨f1, f2⟩ := Bool.or_eq_false_iff.mp f
      have f1 : ds.all (tupN 2) = true := by simpa using f1
      have hc0 : evalE (callF defs (n + 2)) c_are_pairs_0 [some (.tuple ds), some (.int 0), none] = .ok (.list (ds.map at0)) := by
        unfold c_are_pairs_0
        refine comp_nm (by simp only [evalSs, evalS, evalE, evalEs, evalIT, Res.bind_ok, Res.bind_bad, Res.bind_exc, Res.tame_ok, Fl.go_next, Fl.go_ret, Fl.fin_next, Fl.fin_ret, slot_some, List.getElem?_cons_zero, List.getElem?_cons_succ, List.set_cons_zero, List.set_cons_succ, put_nm, put_tu, puts_nil, puts_cons, chainK_t, chainK_f, truth_bool, truth_none, truth_int, truth_list, truth_tuple, truth_str, o2_add_i, o2_sub_i, o2_lt_i, o2_le_i, o2_gt_i, o2_ge_i, o2_is_n, o2_is_b, o2_isnot_n, o2_isnot_b, o2_eq_i, o2_eq_s, o2_eq_ns, o2_eq_b, o2_ne_b, o2_idx_t0, o2_idx_t1, o1_len_scr, o1_len_t, o1_len_l, o1_len_s, o1_not_b, o1_tuple_l, o1_list_t, o1_list_l, o1_rev_t, o1_neg_i, o1_int_b, isi_s, isi_i, isi_b, isi_n, isi_t, isi_l, isTy, isNone_n, isNone_b, isNone_i, isNone_s, isNone_t, isNone_l, isBool_b, Bool.not_true, Bool.not_false, eq_self, if_true, if_false, Bool.false_eq_true, reduceIte, beq_self_eq_true, itemsOf]) fun d hd => ?_
        obtain ⟨a, b, rfl⟩ := tup2_shape (List.all_eq_true.mp f1 d hd)
        simp only [evalSs, evalS, evalE, evalEs, evalIT, Res.bind_ok, Res.bind_bad, Res.bind_exc, Res.tame_ok, Fl.go_next, Fl.go_ret, Fl.fin_next, Fl.fin_ret, slot_some, List.getElem?_cons_zero, List.getElem?_cons_succ, List.set_cons_zero, List.set_cons_succ, put_nm, put_tu, puts_nil, puts_cons, chainK_t, chainK_f, truth_bool, truth_none, truth_int, truth_list, truth_tuple, truth_str, o2_add_i, o2_sub_i, o2_lt_i, o2_le_i, o2_gt_i, o2_ge_i, o2_is_n, o2_is_b, o2_isnot_n, o2_isnot_b, o2_eq_i, o2_eq_s, o2_eq_ns, o2_eq_b, o2_ne_b, o2_idx_t0, o2_idx_t1, o1_len_scr, o1_len_t, o1_len_l, o1_len_s, o1_not_b, o1_tuple_l, o1_list_t, o1_list_l, o1_rev_t, o1_neg_i, o1_int_b, isi_s, isi_i, isi_b, isi_n, isi_t, isi_l, isTy, isNone_n, isNone_b, isNone_i, isNone_s, isNone_t, isNone_l, isBool_b, Bool.not_true, Bool.not_false, eq_self, if_true, if_false, Bool.false_eq_true, reduceIte, beq_self_eq_true, at0]
      have hc1 : evalE (callF defs (n + 2)) c_are_pairs_0 [some (.tuple ds), some (.int 1), none] = .ok (.list (ds.map at1)) := by
        unfold c_are_pairs_0
        refine comp_nm (by simp only [evalSs, evalS, evalE, evalEs, evalIT, Res.bind_ok, Res.bind_bad, Res.bind_exc, Res.tame_ok, Fl.go_next, Fl.go_ret, Fl.fin_next, Fl.fin_ret, slot_some, List.getElem?_cons_zero, List.getElem?_cons_succ, List.set_cons_zero, List.set_cons_succ, put_nm, put_tu, puts_nil, puts_cons, chainK_t, chainK_f, truth_bool, truth_none, truth_int, truth_list, truth_tuple, truth_str, o2_add_i, o2_sub_i, o2_lt_i, o2_le_i, o2_gt_i, o2_ge_i, o2_is_n, o2_is_b, o2_isnot_n, o2_isnot_b, o2_eq_i, o2_eq_s, o2_eq_ns, o2_eq_b, o2_ne_b, o2_idx_t0, o2_idx_t1, o1_len_scr, o1_len_t, o1_len_l, o1_len_s, o1_not_b, o1_tuple_l, o1_list_t, o1_list_l, o1_rev_t, o1_neg_i, o1_int_b, isi_s, isi_i, isi_b, isi_n, isi_t, isi_l, isTy, isNone_n, isNone_b, isNone_i, isNone_s, isNone_t, isNone_l, isBool_b, Bool.not_true, Bool.not_false, eq_self, if_true, if_false, Bool.false_eq_true, reduceIte, beq_self_eq_true, itemsOf]) fun d hd => ?_
        obtain ⟨a, b, rfl⟩ := tup2_shape (List.all_eq_true.mp f1 d hd)
        simp only [evalSs, evalS, evalE, evalEs, evalIT, Res.bind_ok, Res.bind_bad, Res.bind_exc, Res.tame_ok, Fl.go_next, Fl.go_ret, Fl.fin_next, Fl.fin_ret, slot_some, List.getElem?_cons_zero, List.getElem?_cons_succ, List.set_cons_zero, List.set_cons_succ, put_nm, put_tu, puts_nil, puts_cons, chainK_t, chainK_f, truth_bool, truth_none, truth_int, truth_list, truth_tuple, truth_str, o2_add_i, o2_sub_i, o2_lt_i, o2_le_i, o2_gt_i, o2_ge_i, o2_is_n, o2_is_b, o2_isnot_n, o2_isnot_b, o2_eq_i, o2_eq_s, o2_eq_ns, o2_eq_b, o2_ne_b, o2_idx_t0, o2_idx_t1, o1_len_scr, o1_len_t, o1_len_l, o1_len_s, o1_not_b, o1_tuple_l, o1_list_t, o1_list_l, o1_rev_t, o1_neg_i, o1_int_b, isi_s, isi_i, isi_b, isi_n, isi_t, isi_l, isTy, isNone_n, isNone_b, isNone_i, isNone_s, isNone_t, isNone_l, isBool_b, Bool.not_true, Bool.not_false, eq_self, if_true, if_false, Bool.false_eq_true, reduceIte, beq_self_eq_true, at1]
      have hn0 : callF defs (n + 2) F.are_names [.tuple (ds.map at0), .int 1] = .ok (.bool (namesOk (ds.map at0))) := by
        have := are_names_eq n (.tuple (ds.map at0)) 1 (map_fine hf f1).1
        rw [areNames1 (by rw [isEmpty_map]; exact f2)] at this
        exact this
      have hn1 : callF defs (n + 2) F.are_names [.tuple (ds.map at1), .int 1] = .ok (.bool (namesOk (ds.map at1))) := by
        have := are_names_eq n (.tuple (ds.map at1)) 1 (map_fine hf f1).2
        rw [areNames1 (by rw [isEmpty_map]; exact f2)] at this
        exact this
      have hc : evalE (callF defs (n + 2)) c_are_pairs_1 [some (.tuple ds), none, none] = .ok (.list [.bool (namesOk (ds.map at0)), .bool (namesOk (ds.map at1))]) := by
        unfold c_are_pairs_1
        simp only [evalSs, evalS, evalE, evalEs, evalIT, Res.bind_ok, Res.bind_bad, Res.bind_exc, Res.tame_ok, Fl.go_next, Fl.go_ret, Fl.fin_next, Fl.fin_ret, slot_some, List.getElem?_cons_zero, List.getElem?_cons_succ, List.set_cons_zero, List.set_cons_succ, put_nm, put_tu, puts_nil, puts_cons, chainK_t, chainK_f, truth_bool, truth_none, truth_int, truth_list, truth_tuple, truth_str, o2_add_i, o2_sub_i, o2_lt_i, o2_le_i, o2_gt_i, o2_ge_i, o2_is_n, o2_is_b, o2_isnot_n, o2_isnot_b, o2_eq_i, o2_eq_s, o2_eq_ns, o2_eq_b, o2_ne_b, o2_idx_t0, o2_idx_t1, o1_len_scr, o1_len_t, o1_len_l, o1_len_s, o1_not_b, o1_tuple_l, o1_list_t, o1_list_l, o1_rev_t, o1_neg_i, o1_int_b, isi_s, isi_i, isi_b, isi_n, isi_t, isi_l, isTy, isNone_n, isNone_b, isNone_i, isNone_s, isNone_t, isNone_l, isBool_b, Bool.not_true, Bool.not_false, eq_self, if_true, if_false, Bool.false_eq_true, reduceIte, beq_self_eq_true, itemsOf, eachD, hc0, hc1, hn0, hn1]
      have al : ∀ x y : Bool, op1 .all (.list [.bool x, .bool y]) = .ok (.bool (x && y)) := fun x y => by cases x <;> cases y <;> rfl
      refine ret_b (x := namesOk (ds.map at0) && namesOk (ds.map at1)) (by simp only [evalSs, evalS, evalE, evalEs, evalIT, Res.bind_ok, Res.bind_bad, Res.bind_exc, Res.tame_ok, Fl.go_next, Fl.go_ret, Fl.fin_next, Fl.fin_ret, slot_some, List.getElem?_cons_zero, List.getElem?_cons_succ, List.set_cons_zero, List.set_cons_succ, put_nm, put_tu, puts_nil, puts_cons, chainK_t, chainK_f, truth_bool, truth_none, truth_int, truth_list, truth_tuple, truth_str, o2_add_i, o2_sub_i, o2_lt_i, o2_le_i, o2_gt_i, o2_ge_i, o2_is_n, o2_is_b, o2_isnot_n, o2_isnot_b, o2_eq_i, o2_eq_s, o2_eq_ns, o2_eq_b, o2_ne_b, o2_idx_t0, o2_idx_t1, o1_len_scr, o1_len_t, o1_len_l, o1_len_s, o1_not_b, o1_tuple_l, o1_list_t, o1_list_l, o1_rev_t, o1_neg_i, o1_int_b, isi_s, isi_i, isi_b, isi_n, isi_t, isi_l, isTy, isNone_n, isNone_b, isNone_i, isNone_s, isNone_t, isNone_l, isBool_b, Bool.not_true, Bool.not_false, eq_self, if_true, if_false, Bool.false_eq_true, reduceIte, beq_self_eq_true, hc, al]) ?_
      simp only [pairsOk, f1, f2, Bool.not_false, Bool.true_and]
  | dict _ => simp [noDict] at nd
  | _ => simp only [evalSs, evalS, evalE, evalEs, evalIT, Res.bind_ok, Res.bind_bad, Res.bind_exc, Res.tame_ok, Fl.go_next, Fl.go_ret, Fl.fin_next, Fl.fin_ret, slot_some, List.getElem?_cons_zero, List.getElem?_cons_succ, List.set_cons_zero, List.set_cons_succ, put_nm, put_tu, puts_nil, puts_cons, chainK_t, chainK_f, truth_bool, truth_none, truth_int, truth_list, truth_tuple, truth_str, o2_add_i, o2_sub_i, o2_lt_i, o2_le_i, o2_gt_i, o2_ge_i, o2_is_n, o2_is_b, o2_isnot_n, o2_isnot_b, o2_eq_i, o2_eq_s, o2_eq_ns, o2_eq_b, o2_ne_b, o2_idx_t0, o2_idx_t1, o1_len_scr, o1_len_t, o1_len_l, o1_len_s, o1_not_b, o1_tuple_l, o1_list_t, o1_list_l, o1_rev_t, o1_neg_i, o1_int_b, isi_s, isi_i, isi_b, isi_n, isi_t, isi_l, isTy, isNone_n, isNone_b, isNone_i, isNone_s, isNone_t, isNone_l, isBool_b, Bool.not_true, Bool.not_false, eq_self, if_true, if_false, Bool.false_eq_true, reduceIte, beq_self_eq_true, f_are_pairs, ht, allTup, pairsOk]
def whole5 : List Str := [w_sum, w_least, w_most, w_any, w_every]
def heapW (w : Str) (c : D) : Bool := if (w == w_count) = true then isNone c else decide (w ∈ whole5) && isName c
def heapOk : D → Bool
  | .tuple [a, .str w, c] => isName a && heapW w c
  | _ => false
theorem is_heap_eq (n : Nat) (d : D) (hf : fine 1000 d = true) (h3 : tupN 3 d = true) : callF defs (n + 2) F.is_heap [d] = .ok (.bool (heapOk d)) := by
  rw [u_is_heap]
  cases d with
  | tuple es =>
    have h3 : es.length = 3 := of_decide_eq_true h3
    match es, h3 with
    | [a, b, c], _ =>
      have fa := fine_noDict a ((fine_tuple.mp hf).2 a (by simp))
      have fb := fine_noDict b ((fine_tuple.mp hf).2 b (by simp))
      have fc := fine_noDict c ((fine_tuple.mp hf).2 c (by simp))
      have i1 := is_name_eq n a fa
      have i3 := is_name_eq n c fc
      refine fin_of (seq_next (e := [some (.tuple [a, b, c]), some a, some b, some c]) (by simp only [evalSs, evalS, evalE, evalEs, evalIT, Res.bind_ok, Res.bind_bad, Res.bind_exc, Res.tame_ok, Fl.go_next, Fl.go_ret, Fl.fin_next, Fl.fin_ret, slot_some, List.getElem?_cons_zero, List.getElem?_cons_succ, List.set_cons_zero, List.set_cons_succ, put_nm, put_tu, puts_nil, puts_cons, chainK_t, chainK_f, truth_bool, truth_none, truth_int, truth_list, truth_tuple, truth_str, o2_add_i, o2_sub_i, o2_lt_i, o2_le_i, o2_gt_i, o2_ge_i, o2_is_n, o2_is_b, o2_isnot_n, o2_isnot_b, o2_eq_i, o2_eq_s, o2_eq_ns, o2_eq_b, o2_ne_b, o2_idx_t0, o2_idx_t1, o1_len_scr, o1_len_t, o1_len_l, o1_len_s, o1_not_b, o1_tuple_l, o1_list_t, o1_list_l, o1_rev_t, o1_neg_i, o1_int_b, isi_s, isi_i, isi_b, isi_n, isi_t, isi_l, isTy, isNone_n, isNone_b, isNone_i, isNone_s, isNone_t, isNone_l, isBool_b, Bool.not_true, Bool.not_false, eq_self, if_true, if_false, Bool.false_eq_true, reduceIte, beq_self_eq_true]) ?_)
      cases b with
      | str w =>
        refine seq_if (or_b (x := !isName a) (y := false) (not_b (call1 (by simp only [evalSs, evalS, evalE, evalEs, evalIT, Res.bind_ok, Res.bind_bad, Res.bind_exc, Res.tame_ok, Fl.go_next, Fl.go_ret, Fl.fin_next, Fl.fin_ret, slot_some, List.getElem?_cons_zero, List.getElem?_cons_succ, List.set_cons_zero, List.set_cons_succ, put_nm, put_tu, puts_nil, puts_cons, chainK_t, chainK_f, truth_bool, truth_none, truth_int, truth_list, truth_tuple, truth_str, o2_add_i, o2_sub_i, o2_lt_i, o2_le_i, o2_gt_i, o2_ge_i, o2_is_n, o2_is_b, o2_isnot_n, o2_isnot_b, o2_eq_i, o2_eq_s, o2_eq_ns, o2_eq_b, o2_ne_b, o2_idx_t0, o2_idx_t1, o1_len_scr, o1_len_t, o1_len_l, o1_len_s, o1_not_b, o1_tuple_l, o1_list_t, o1_list_l, o1_rev_t, o1_neg_i, o1_int_b, isi_s, isi_i, isi_b, isi_n, isi_t, isi_l, isTy, isNone_n, isNone_b, isNone_i, isNone_s, isNone_t, isNone_l, isBool_b, Bool.not_true, Bool.not_false, eq_self, if_true, if_false, Bool.false_eq_true, reduceIte, beq_self_eq_true]) i1)) fun _ => by simp only [evalSs, evalS, evalE, evalEs, evalIT, Res.bind_ok, Res.bind_bad, Res.bind_exc, Res.tame_ok, Fl.go_next, Fl.go_ret, Fl.fin_next, Fl.fin_ret, slot_some, List.getElem?_cons_zero, List.getElem?_cons_succ, List.set_cons_zero, List.set_cons_succ, put_nm, put_tu, puts_nil, puts_cons, chainK_t, chainK_f, truth_bool, truth_none, truth_int, truth_list, truth_tuple, truth_str, o2_add_i, o2_sub_i, o2_lt_i, o2_le_i, o2_gt_i, o2_ge_i, o2_is_n, o2_is_b, o2_isnot_n, o2_isnot_b, o2_eq_i, o2_eq_s, o2_eq_ns, o2_eq_b, o2_ne_b, o2_idx_t0, o2_idx_t1, o1_len_scr, o1_len_t, o1_len_l, o1_len_s, o1_not_b, o1_tuple_l, o1_list_t, o1_list_l, o1_rev_t, o1_neg_i, o1_int_b, isi_s, isi_i, isi_b, isi_n, isi_t, isi_l, isTy, isNone_n, isNone_b, isNone_i, isNone_s, isNone_t, isNone_l, isBool_b, Bool.not_true, Bool.not_false, eq_self, if_true, if_false, Bool.false_eq_true, reduceIte, beq_self_eq_true]) (fun t => ?_) fun f => ?_
        · have t : isName a = false := by simpa using t
          exact ret_b (x := false) (by simp only [evalSs, evalS, evalE, evalEs, evalIT, Res.bind_ok, Res.bind_bad, Res.bind_exc, Res.tame_ok, Fl.go_next, Fl.go_ret, Fl.fin_next, Fl.fin_ret, slot_some, List.getElem?_cons_zero, List.getElem?_cons_succ, List.set_cons_zero, List.set_cons_succ, put_nm, put_tu, puts_nil, puts_cons, chainK_t, chainK_f, truth_bool, truth_none, truth_int, truth_list, truth_tuple, truth_str, o2_add_i, o2_sub_i, o2_lt_i, o2_le_i, o2_gt_i, o2_ge_i, o2_is_n, o2_is_b, o2_isnot_n, o2_isnot_b, o2_eq_i, o2_eq_s, o2_eq_ns, o2_eq_b, o2_ne_b, o2_idx_t0, o2_idx_t1, o1_len_scr, o1_len_t, o1_len_l, o1_len_s, o1_not_b, o1_tuple_l, o1_list_t, o1_list_l, o1_rev_t, o1_neg_i, o1_int_b, isi_s, isi_i, isi_b, isi_n, isi_t, isi_l, isTy, isNone_n, isNone_b, isNone_i, isNone_s, isNone_t, isNone_l, isBool_b, Bool.not_true, Bool.not_false, eq_self, if_true, if_false, Bool.false_eq_true, reduceIte, beq_self_eq_true]) (by simp only [heapOk, t, Bool.false_and])
        · have f : isName a = true := by simpa using f
          refine seq_if (x := w == w_count) (by simp only [evalSs, evalS, evalE, evalEs, evalIT, Res.bind_ok, Res.bind_bad, Res.bind_exc, Res.tame_ok, Fl.go_next, Fl.go_ret, Fl.fin_next, Fl.fin_ret, slot_some, List.getElem?_cons_zero, List.getElem?_cons_succ, List.set_cons_zero, List.set_cons_succ, put_nm, put_tu, puts_nil, puts_cons, chainK_t, chainK_f, truth_bool, truth_none, truth_int, truth_list, truth_tuple, truth_str, o2_add_i, o2_sub_i, o2_lt_i, o2_le_i, o2_gt_i, o2_ge_i, o2_is_n, o2_is_b, o2_isnot_n, o2_isnot_b, o2_eq_i, o2_eq_s, o2_eq_ns, o2_eq_b, o2_ne_b, o2_idx_t0, o2_idx_t1, o1_len_scr, o1_len_t, o1_len_l, o1_len_s, o1_not_b, o1_tuple_l, o1_list_t, o1_list_l, o1_rev_t, o1_neg_i, o1_int_b, isi_s, isi_i, isi_b, isi_n, isi_t, isi_l, isTy, isNone_n, isNone_b, isNone_i, isNone_s, isNone_t, isNone_l, isBool_b, Bool.not_true, Bool.not_false, eq_self, if_true, if_false, Bool.false_eq_true, reduceIte, beq_self_eq_true]) (fun t => ret_b (x := isNone c) (by simp only [evalSs, evalS, evalE, evalEs, evalIT, Res.bind_ok, Res.bind_bad, Res.bind_exc, Res.tame_ok, Fl.go_next, Fl.go_ret, Fl.fin_next, Fl.fin_ret, slot_some, List.getElem?_cons_zero, List.getElem?_cons_succ, List.set_cons_zero, List.set_cons_succ, put_nm, put_tu, puts_nil, puts_cons, chainK_t, chainK_f, truth_bool, truth_none, truth_int, truth_list, truth_tuple, truth_str, o2_add_i, o2_sub_i, o2_lt_i, o2_le_i, o2_gt_i, o2_ge_i, o2_is_n, o2_is_b, o2_isnot_n, o2_isnot_b, o2_eq_i, o2_eq_s, o2_eq_ns, o2_eq_b, o2_ne_b, o2_idx_t0, o2_idx_t1, o1_len_scr, o1_len_t, o1_len_l, o1_len_s, o1_not_b, o1_tuple_l, o1_list_t, o1_list_l, o1_rev_t, o1_neg_i, o1_int_b, isi_s, isi_i, isi_b, isi_n, isi_t, isi_l, isTy, isNone_n, isNone_b, isNone_i, isNone_s, isNone_t, isNone_l, isBool_b, Bool.not_true, Bool.not_false, eq_self, if_true, if_false, Bool.false_eq_true, reduceIte, beq_self_eq_true]) ?_) fun f2 => ?_
          · simp only [heapOk, heapW, f, t, if_true, Bool.true_and]
          · have hin : op2 .in_ (.str w) g_WHOLE_WORDS = .ok (.bool (decide (w ∈ whole5))) := in_ws w whole5
            refine ret_b (and_b (x := decide (w ∈ whole5)) (y := isName c) (by simp only [evalSs, evalS, evalE, evalEs, evalIT, Res.bind_ok, Res.bind_bad, Res.bind_exc, Res.tame_ok, Fl.go_next, Fl.go_ret, Fl.fin_next, Fl.fin_ret, slot_some, List.getElem?_cons_zero, List.getElem?_cons_succ, List.set_cons_zero, List.set_cons_succ, put_nm, put_tu, puts_nil, puts_cons, chainK_t, chainK_f, truth_bool, truth_none, truth_int, truth_list, truth_tuple, truth_str, o2_add_i, o2_sub_i, o2_lt_i, o2_le_i, o2_gt_i, o2_ge_i, o2_is_n, o2_is_b, o2_isnot_n, o2_isnot_b, o2_eq_i, o2_eq_s, o2_eq_ns, o2_eq_b, o2_ne_b, o2_idx_t0, o2_idx_t1, o1_len_scr, o1_len_t, o1_len_l, o1_len_s, o1_not_b, o1_tuple_l, o1_list_t, o1_list_l, o1_rev_t, o1_neg_i, o1_int_b, isi_s, isi_i, isi_b, isi_n, isi_t, isi_l, isTy, isNone_n, isNone_b, isNone_i, isNone_s, isNone_t, isNone_l, isBool_b, Bool.not_true, Bool.not_false, eq_self, if_true, if_false, Bool.false_eq_true, reduceIte, beq_self_eq_true, hin]) fun _ => call1 (by simp only [evalSs, evalS, evalE, evalEs, evalIT, Res.bind_ok, Res.bind_bad, Res.bind_exc, Res.tame_ok, Fl.go_next, Fl.go_ret, Fl.fin_next, Fl.fin_ret, slot_some, List.getElem?_cons_zero, List.getElem?_cons_succ, List.set_cons_zero, List.set_cons_succ, put_nm, put_tu, puts_nil, puts_cons, chainK_t, chainK_f, truth_bool, truth_none, truth_int, truth_list, truth_tuple, truth_str, o2_add_i, o2_sub_i, o2_lt_i, o2_le_i, o2_gt_i, o2_ge_i, o2_is_n, o2_is_b, o2_isnot_n, o2_isnot_b, o2_eq_i, o2_eq_s, o2_eq_ns, o2_eq_b, o2_ne_b, o2_idx_t0, o2_idx_t1, o1_len_scr, o1_len_t, o1_len_l, o1_len_s, o1_not_b, o1_tuple_l, o1_list_t, o1_list_l, o1_rev_t, o1_neg_i, o1_int_b, isi_s, isi_i, isi_b, isi_n, isi_t, isi_l, isTy, isNone_n, isNone_b, isNone_i, isNone_s, isNone_t, isNone_l, isBool_b, Bool.not_true, Bool.not_false, eq_self, if_true, if_false, Bool.false_eq_true, reduceIte, beq_self_eq_true]) i3) ?_
            simp only [heapOk, heapW, f, f2, if_false, Bool.false_eq_true, Bool.true_and]
      | dict _ => simp [noDict] at fb
      | _ =>
        refine (seq_if (or_b (x := !isName a) (y := true) (not_b (call1 (by simp only [evalSs, evalS, evalE, evalEs, evalIT, Res.bind_ok, Res.bind_bad, Res.bind_exc, Res.tame_ok, Fl.go_next, Fl.go_ret, Fl.fin_next, Fl.fin_ret, slot_some, List.getElem?_cons_zero, List.getElem?_cons_succ, List.set_cons_zero, List.set_cons_succ, put_nm, put_tu, puts_nil, puts_cons, chainK_t, chainK_f, truth_bool, truth_none, truth_int, truth_list, truth_tuple, truth_str, o2_add_i, o2_sub_i, o2_lt_i, o2_le_i, o2_gt_i, o2_ge_i, o2_is_n, o2_is_b, o2_isnot_n, o2_isnot_b, o2_eq_i, o2_eq_s, o2_eq_ns, o2_eq_b, o2_ne_b, o2_idx_t0, o2_idx_t1, o1_len_scr, o1_len_t, o1_len_l, o1_len_s, o1_not_b, o1_tuple_l, o1_list_t, o1_list_l, o1_rev_t, o1_neg_i, o1_int_b, isi_s, isi_i, isi_b, isi_n, isi_t, isi_l, isTy, isNone_n, isNone_b, isNone_i, isNone_s, isNone_t, isNone_l, isBool_b, Bool.not_true, Bool.not_false, eq_self, if_true, if_false, Bool.false_eq_true, reduceIte, beq_self_eq_true]) i1)) fun _ => by simp only [evalSs, evalS, evalE, evalEs, evalIT, Res.bind_ok, Res.bind_bad, Res.bind_exc, Res.tame_ok, Fl.go_next, Fl.go_ret, Fl.fin_next, Fl.fin_ret, slot_some, List.getElem?_cons_zero, List.getElem?_cons_succ, List.set_cons_zero, List.set_cons_succ, put_nm, put_tu, puts_nil, puts_cons, chainK_t, chainK_f, truth_bool, truth_none, truth_int, truth_list, truth_tuple, truth_str, o2_add_i, o2_sub_i, o2_lt_i, o2_le_i, o2_gt_i, o2_ge_i, o2_is_n, o2_is_b, o2_isnot_n, o2_isnot_b, o2_eq_i, o2_eq_s, o2_eq_ns, o2_eq_b, o2_ne_b, o2_idx_t0, o2_idx_t1, o1_len_scr, o1_len_t, o1_len_l, o1_len_s, o1_not_b, o1_tuple_l, o1_list_t, o1_list_l, o1_rev_t, o1_neg_i, o1_int_b, isi_s, isi_i, isi_b, isi_n, isi_t, isi_l, isTy, isNone_n, isNone_b, isNone_i, isNone_s, isNone_t, isNone_l, isBool_b, Bool.not_true, Bool.not_false, eq_self, if_true, if_false, Bool.false_eq_true, reduceIte, beq_self_eq_true]) (fun t => ret_b (x := false) (y := false) (by simp only [evalSs, evalS, evalE, evalEs, evalIT, Res.bind_ok, Res.bind_bad, Res.bind_exc, Res.tame_ok, Fl.go_next, Fl.go_ret, Fl.fin_next, Fl.fin_ret, slot_some, List.getElem?_cons_zero, List.getElem?_cons_succ, List.set_cons_zero, List.set_cons_succ, put_nm, put_tu, puts_nil, puts_cons, chainK_t, chainK_f, truth_bool, truth_none, truth_int, truth_list, truth_tuple, truth_str, o2_add_i, o2_sub_i, o2_lt_i, o2_le_i, o2_gt_i, o2_ge_i, o2_is_n, o2_is_b, o2_isnot_n, o2_isnot_b, o2_eq_i, o2_eq_s, o2_eq_ns, o2_eq_b, o2_ne_b, o2_idx_t0, o2_idx_t1, o1_len_scr, o1_len_t, o1_len_l, o1_len_s, o1_not_b, o1_tuple_l, o1_list_t, o1_list_l, o1_rev_t, o1_neg_i, o1_int_b, isi_s, isi_i, isi_b, isi_n, isi_t, isi_l, isTy, isNone_n, isNone_b, isNone_i, isNone_s, isNone_t, isNone_l, isBool_b, Bool.not_true, Bool.not_false, eq_self, if_true, if_false, Bool.false_eq_true, reduceIte, beq_self_eq_true]) rfl) fun f => ?_)
        simp at f
  | _ => cases h3
def heapsOk : D → Bool
  | .tuple ds => !ds.isEmpty && ds.all heapOk
  | _ => false
def firstOk : D → Bool
  | .int i => decide (0 ≤ i)
  | _ => false
def only2 (f : D → D → Bool) : List D → Bool
  | [a, b] => f a b
  | _ => false
theorem only2_len {f : D → D → Bool} {ps : List D} (h : ps.length ≠ 2) : only2 f ps = false := by
  match ps, h with
  | [], _ => rfl
  | [_], _ => rfl
  | [_, _], h => exact absurd rfl h
  | _ :: _ :: _ :: _, _ => rfl
def partsOk (w : Str) (ps : List D) : Bool :=
  if (w == w_where) = true then only (isSum 5) ps
  else if (w == w_take) = true then only (areNames 1) ps
  else if (w == w_add) = true then only2 (fun a b => isName a && isSum 5 b) ps
  else if (w == w_name) = true then only2 (fun a b => isName a && isName b) ps
  else if (w == w_first) = true then only firstOk ps
  else if (w == w_sort) = true then only keysOk ps
  else if (w == w_group) = true then only2 (fun a b => areNames 0 a && heapsOk b) ps
  else if (decide (w ∈ [w_join, w_left])) = true then only pairsOk ps
  else ps.isEmpty && decide (w ∈ [w_once, w_both, w_minus])
section
variable {ρ : Nat → List D → Res D} {env : En}
theorem ret_only {ps : List D} {e g : IE} {f : D → Bool} (hv : evalE ρ g env = .ok (.tuple ps)) (h : ∀ a, ps = [a] → evalE ρ e env = .ok (.bool (f a))) : evalE ρ (.and_ (.o2 .eq (.o1 .len g) (.int 1)) e) env = .ok (.bool (only f ps)) := by
  have hl := len_is hv 1
  by_cases q : ps.length = 1
  · match ps, q with
    | [a], _ =>
      have hl : evalE ρ (.o2 .eq (.o1 .len g) (.int 1)) env = .ok (.bool true) := hl
      have := and_b (y := f a) hl fun _ => h a rfl
      rw [Bool.true_and] at this
      exact this
  · rw [decide_eq_false q] at hl
    rw [only_len q]
    exact and_b (y := false) hl fun z => nomatch z
theorem ret_only2 {ps : List D} {e g : IE} {f : D → D → Bool} (hv : evalE ρ g env = .ok (.tuple ps)) (h : ∀ a b, ps = [a, b] → evalE ρ e env = .ok (.bool (f a b))) : evalE ρ (.and_ (.o2 .eq (.o1 .len g) (.int 2)) e) env = .ok (.bool (only2 f ps)) := by
  have hl := len_is hv 2
  by_cases q : ps.length = 2
  · match ps, q with
    | [a, b], _ =>
      have hl : evalE ρ (.o2 .eq (.o1 .len g) (.int 2)) env = .ok (.bool true) := hl
      have := and_b (y := f a b) hl fun _ => h a b rfl
      rw [Bool.true_and] at this
      exact this
  · rw [decide_eq_false q] at hl
    rw [only2_len q]
    exact and_b (y := false) hl fun z => nomatch z
end
theorem heap_tup {d : D} (h : heapOk d = true) : tupN 3 d = true := by
  unfold heapOk at h
  split at h
  · rfl
  · cases h
theorem len0' (n : Nat) (ds : List D) : decide (ds.length = 0) = ds.isEmpty := by cases ds <;> rfl
theorem first_eq {ρ : Nat → List D → Res D} {env : En} {e : IE} {d : D} (h : evalE ρ e env = .ok d) (nd : noDict d = true) : evalE ρ (.and_ (.isi e .int) (.and_ (.o1 .not (.isi e .bool)) (.o2 .ge e (.int 0)))) env = .ok (.bool (firstOk d)) := by
  have h1 := isi_at h .int nd
  have h2 := isi_at h .bool nd
  cases d with
  | dict _ => simp [noDict] at nd
  | int i =>
    have h3 : evalE ρ (.o2 .ge e (.int 0)) env = .ok (.bool (decide (0 ≤ i))) := by simp only [evalE, h, bind_ok, o2_ge_i]
    have := and_b (y := decide (0 ≤ i)) h1 fun _ => and_b (y := decide (0 ≤ i)) (not_b h2) fun _ => h3
    simpa [isTy, firstOk] using this
  | bool b =>
    have := and_b (b := .and_ (.o1 .not (.isi e .bool)) (.o2 .ge e (.int 0))) (y := false) h1 fun _ => and_b (b := .o2 .ge e (.int 0)) (y := false) (not_b h2) fun z => nomatch (show false = true from z)
    simpa [isTy, firstOk] using this
  | _ =>
    have := and_b (b := .and_ (.o1 .not (.isi e .bool)) (.o2 .ge e (.int 0))) (y := false) h1 fun z => nomatch (show false = true from z)
    simpa [isTy, firstOk] using this
theorem are_parts_eq (k : Nat) (w : Str) (ps : List D) (hf : fine 1000 (.tuple ps) = true) : callF defs (k + 9) F.are_parts [.str w, .tuple ps] = .ok (.bool (partsOk w ps)) := by
  rw [u_are_parts]
  have fm := (fine_tuple.mp hf).2
  have hS : ∀ d : D, fine 1000 d = true → callF defs (k + 8) F.is_sum [d] = .ok (.bool (isSum 5 d)) := fun d h => is_sum_eq k d (fine_noDict d h)
  have hN : ∀ d : D, fine 1000 d = true → callF defs (k + 8) F.is_name [d] = .ok (.bool (isName d)) := fun d h => is_name_eq (k + 7) d (fine_noDict d h)
  have hA : ∀ (d : D) (j : Nat), fine 1000 d = true → callF defs (k + 8) F.are_names [d, .int j] = .ok (.bool (areNames j d)) := fun d j h => are_names_eq (k + 6) d j h
  have hK : ∀ d : D, fine 1000 d = true → callF defs (k + 8) F.are_keys [d] = .ok (.bool (keysOk d)) := fun d h => are_keys_eq (k + 5) d h
  have hP : ∀ d : D, fine 1000 d = true → callF defs (k + 8) F.are_pairs [d] = .ok (.bool (pairsOk d)) := fun d h => are_pairs_eq (k + 5) d h
  have hT : ∀ (d : D) (j : Nat), fine 1000 d = true → callF defs (k + 8) F.are_tuples [d, .int j] = .ok (.bool (allTup j d)) := fun d j h => tuplesN_eq (k + 7) d j (fine_noDict d h)
  have hH : ∀ d : D, fine 1000 d = true → tupN 3 d = true → callF defs (k + 8) F.is_heap [d] = .ok (.bool (heapOk d)) := fun d h h3 => is_heap_eq (k + 6) d h h3
  generalize callF defs (k + 8) = ρ at hS hN hA hK hP hT hH
  have hv : evalE ρ (.var 1) [some (.str w), some (.tuple ps), none] = .ok (.tuple ps) := by simp only [evalSs, evalS, evalE, evalEs, evalIT, Res.bind_ok, Res.bind_bad, Res.bind_exc, Res.tame_ok, Fl.go_next, Fl.go_ret, Fl.fin_next, Fl.fin_ret, slot_some, List.getElem?_cons_zero, List.getElem?_cons_succ, List.set_cons_zero, List.set_cons_succ, put_nm, put_tu, puts_nil, puts_cons, chainK_t, chainK_f, truth_bool, truth_none, truth_int, truth_list, truth_tuple, truth_str, o2_add_i, o2_sub_i, o2_lt_i, o2_le_i, o2_gt_i, o2_ge_i, o2_is_n, o2_is_b, o2_isnot_n, o2_isnot_b, o2_eq_i, o2_eq_s, o2_eq_ns, o2_eq_b, o2_ne_b, o2_idx_t0, o2_idx_t1, o1_len_scr, o1_len_t, o1_len_l, o1_len_s, o1_not_b, o1_tuple_l, o1_list_t, o1_list_l, o1_rev_t, o1_neg_i, o1_int_b, isi_s, isi_i, isi_b, isi_n, isi_t, isi_l, isTy, isNone_n, isNone_b, isNone_i, isNone_s, isNone_t, isNone_l, isBool_b, Bool.not_true, Bool.not_false, eq_self, if_true, if_false, Bool.false_eq_true, reduceIte, beq_self_eq_true]
  have hw : evalE ρ (.var 0) [some (.str w), some (.tuple ps), none] = .ok (.str w) := by simp only [evalSs, evalS, evalE, evalEs, evalIT, Res.bind_ok, Res.bind_bad, Res.bind_exc, Res.tame_ok, Fl.go_next, Fl.go_ret, Fl.fin_next, Fl.fin_ret, slot_some, List.getElem?_cons_zero, List.getElem?_cons_succ, List.set_cons_zero, List.set_cons_succ, put_nm, put_tu, puts_nil, puts_cons, chainK_t, chainK_f, truth_bool, truth_none, truth_int, truth_list, truth_tuple, truth_str, o2_add_i, o2_sub_i, o2_lt_i, o2_le_i, o2_gt_i, o2_ge_i, o2_is_n, o2_is_b, o2_isnot_n, o2_isnot_b, o2_eq_i, o2_eq_s, o2_eq_ns, o2_eq_b, o2_ne_b, o2_idx_t0, o2_idx_t1, o1_len_scr, o1_len_t, o1_len_l, o1_len_s, o1_not_b, o1_tuple_l, o1_list_t, o1_list_l, o1_rev_t, o1_neg_i, o1_int_b, isi_s, isi_i, isi_b, isi_n, isi_t, isi_l, isTy, isNone_n, isNone_b, isNone_i, isNone_s, isNone_t, isNone_l, isBool_b, Bool.not_true, Bool.not_false, eq_self, if_true, if_false, Bool.false_eq_true, reduceIte, beq_self_eq_true]
  have p0 : ∀ {a : D} {r : List D}, ps = a :: r → evalE ρ (.o2 .idx (.var 1) (.int 0)) [some (.str w), some (.tuple ps), none] = .ok a ∧ fine 1000 a = true := fun {a r} e => ⟨idx_at (i := 0) hv (by rw [e]; rfl), fm a (by rw [e]; simp)⟩
  have p1 : ∀ {a b : D} {r : List D}, ps = a :: b :: r → evalE ρ (.o2 .idx (.var 1) (.int 1)) [some (.str w), some (.tuple ps), none] = .ok b ∧ fine 1000 b = true := fun {a b r} e => ⟨idx_at (i := 1) hv (by rw [e]; rfl), fm b (by rw [e]; simp)⟩
  refine fin_of ?_
  refine seq_if (o2_is_s hw) (fun t => ret_b (ret_only (f := isSum 5) hv fun a e => call1 (p0 e).1 (hS a (p0 e).2)) (by simp only [partsOk, t, if_true])) fun f1 => ?_
  refine seq_if (o2_is_s hw) (fun t => ret_b (ret_only (f := areNames 1) hv fun a e => call2 (p0 e).1 (by simp only [evalSs, evalS, evalE, evalEs, evalIT, Res.bind_ok, Res.bind_bad, Res.bind_exc, Res.tame_ok, Fl.go_next, Fl.go_ret, Fl.fin_next, Fl.fin_ret, slot_some, List.getElem?_cons_zero, List.getElem?_cons_succ, List.set_cons_zero, List.set_cons_succ, put_nm, put_tu, puts_nil, puts_cons, chainK_t, chainK_f, truth_bool, truth_none, truth_int, truth_list, truth_tuple, truth_str, o2_add_i, o2_sub_i, o2_lt_i, o2_le_i, o2_gt_i, o2_ge_i, o2_is_n, o2_is_b, o2_isnot_n, o2_isnot_b, o2_eq_i, o2_eq_s, o2_eq_ns, o2_eq_b, o2_ne_b, o2_idx_t0, o2_idx_t1, o1_len_scr, o1_len_t, o1_len_l, o1_len_s, o1_not_b, o1_tuple_l, o1_list_t, o1_list_l, o1_rev_t, o1_neg_i, o1_int_b, isi_s, isi_i, isi_b, isi_n, isi_t, isi_l, isTy, isNone_n, isNone_b, isNone_i, isNone_s, isNone_t, isNone_l, isBool_b, Bool.not_true, Bool.not_false, eq_self, if_true, if_false, Bool.false_eq_true, reduceIte, beq_self_eq_true] <;> rfl) (hA a 1 (p0 e).2)) (by simp only [partsOk, f1, t, if_true, if_false, Bool.false_eq_true])) fun f2 => ?_
  refine seq_if (o2_is_s hw) (fun t => ret_b (ret_only2 (f := fun a b => isName a && isSum 5 b) hv fun a b e => and_b (call1 (p0 e).1 (hN a (p0 e).2)) fun _ => call1 (p1 e).1 (hS b (p1 e).2)) (by simp only [partsOk, f1, f2, t, if_true, if_false, Bool.false_eq_true])) fun f3 => ?_
  refine seq_if (o2_is_s hw) (fun t => ret_b (ret_only2 (f := fun a b => isName a && isName b) hv fun a b e => and_b (call1 (p0 e).1 (hN a (p0 e).2)) fun _ => call1 (p1 e).1 (hN b (p1 e).2)) (by simp only [partsOk, f1, f2, f3, t, if_true, if_false, Bool.false_eq_true])) fun f4 => ?_
  refine seq_if (o2_is_s hw) (fun t => ret_b (ret_only (f := firstOk) hv fun a e => first_eq (p0 e).1 (fine_noDict a (p0 e).2)) (by simp only [partsOk, f1, f2, f3, f4, t, if_true, if_false, Bool.false_eq_true])) fun f5 => ?_
  refine seq_if (o2_is_s hw) (fun t => ret_b (ret_only (f := keysOk) hv fun a e => call1 (p0 e).1 (hK a (p0 e).2)) (by simp only [partsOk, f1, f2, f3, f4, f5, t, if_true, if_false, Bool.false_eq_true])) fun f6 => ?_
  refine seq_if (o2_is_s hw) (fun t => ?_) fun f7 => ?_
  · have e7 : partsOk w ps = only2 (fun a b => areNames 0 a && heapsOk b) ps := by simp only [partsOk, f1, f2, f3, f4, f5, f6, t, if_true, if_false, Bool.false_eq_true]
    rw [e7]
    by_cases q : ps.length = 2
    · obtain ⟨a, b, e⟩ := (len2 ps).mp q
      have l2 := len_isnt hv 2
      rw [decide_eq_true q] at l2
      have n0 := call2 (f := F.are_names) (p0 e).1 (show evalE ρ (.int 0) [some (.str w), some (.tuple ps), none] = .ok (.int ((0 : Nat) : Int)) by simp only [evalSs, evalS, evalE, evalEs, evalIT, Res.bind_ok, Res.bind_bad, Res.bind_exc, Res.tame_ok, Fl.go_next, Fl.go_ret, Fl.fin_next, Fl.fin_ret, slot_some, List.getElem?_cons_zero, List.getElem?_cons_succ, List.set_cons_zero, List.set_cons_succ, put_nm, put_tu, puts_nil, puts_cons, chainK_t, chainK_f, truth_bool, truth_none, truth_int, truth_list, truth_tuple, truth_str, o2_add_i, o2_sub_i, o2_lt_i, o2_le_i, o2_gt_i, o2_ge_i, o2_is_n, o2_is_b, o2_isnot_n, o2_isnot_b, o2_eq_i, o2_eq_s, o2_eq_ns, o2_eq_b, o2_ne_b, o2_idx_t0, o2_idx_t1, o1_len_scr, o1_len_t, o1_len_l, o1_len_s, o1_not_b, o1_tuple_l, o1_list_t, o1_list_l, o1_rev_t, o1_neg_i, o1_int_b, isi_s, isi_i, isi_b, isi_n, isi_t, isi_l, isTy, isNone_n, isNone_b, isNone_i, isNone_s, isNone_t, isNone_l, isBool_b, Bool.not_true, Bool.not_false, eq_self, if_true, if_false, Bool.false_eq_true, reduceIte, beq_self_eq_true] <;> rfl) (hA a 0 (p0 e).2)
      have n1 := call2 (f := F.are_tuples) (p1 e).1 (show evalE ρ (.int 3) [some (.str w), some (.tuple ps), none] = .ok (.int ((3 : Nat) : Int)) by simp only [evalSs, evalS, evalE, evalEs, evalIT, Res.bind_ok, Res.bind_bad, Res.bind_exc, Res.tame_ok, Fl.go_next, Fl.go_ret, Fl.fin_next, Fl.fin_ret, slot_some, List.getElem?_cons_zero, List.getElem?_cons_succ, List.set_cons_zero, List.set_cons_succ, put_nm, put_tu, puts_nil, puts_cons, chainK_t, chainK_f, truth_bool, truth_none, truth_int, truth_list, truth_tuple, truth_str, o2_add_i, o2_sub_i, o2_lt_i, o2_le_i, o2_gt_i, o2_ge_i, o2_is_n, o2_is_b, o2_isnot_n, o2_isnot_b, o2_eq_i, o2_eq_s, o2_eq_ns, o2_eq_b, o2_ne_b, o2_idx_t0, o2_idx_t1, o1_len_scr, o1_len_t, o1_len_l, o1_len_s, o1_not_b, o1_tuple_l, o1_list_t, o1_list_l, o1_rev_t, o1_neg_i, o1_int_b, isi_s, isi_i, isi_b, isi_n, isi_t, isi_l, isTy, isNone_n, isNone_b, isNone_i, isNone_s, isNone_t, isNone_l, isBool_b, Bool.not_true, Bool.not_false, eq_self, if_true, if_false, Bool.false_eq_true, reduceIte, beq_self_eq_true] <;> rfl) (hT b 3 (p1 e).2)
      have fb := (p1 e).2
      have eb := (p1 e).1
      rw [show only2 (fun a b => areNames 0 a && heapsOk b) ps = (areNames 0 a && heapsOk b) by rw [e]; rfl]
      cases q1 : areNames 0 a with
      | false =>
        rw [q1] at n0
        exact seq_if (or_b (x := false) (y := true) l2 fun _ => or_b (x := true) (y := true) (not_b n0) fun z => nomatch z) (fun _ => ret_b (x := false) (by simp only [evalSs, evalS, evalE, evalEs, evalIT, Res.bind_ok, Res.bind_bad, Res.bind_exc, Res.tame_ok, Fl.go_next, Fl.go_ret, Fl.fin_next, Fl.fin_ret, slot_some, List.getElem?_cons_zero, List.getElem?_cons_succ, List.set_cons_zero, List.set_cons_succ, put_nm, put_tu, puts_nil, puts_cons, chainK_t, chainK_f, truth_bool, truth_none, truth_int, truth_list, truth_tuple, truth_str, o2_add_i, o2_sub_i, o2_lt_i, o2_le_i, o2_gt_i, o2_ge_i, o2_is_n, o2_is_b, o2_isnot_n, o2_isnot_b, o2_eq_i, o2_eq_s, o2_eq_ns, o2_eq_b, o2_ne_b, o2_idx_t0, o2_idx_t1, o1_len_scr, o1_len_t, o1_len_l, o1_len_s, o1_not_b, o1_tuple_l, o1_list_t, o1_list_l, o1_rev_t, o1_neg_i, o1_int_b, isi_s, isi_i, isi_b, isi_n, isi_t, isi_l, isTy, isNone_n, isNone_b, isNone_i, isNone_s, isNone_t, isNone_l, isBool_b, Bool.not_true, Bool.not_false, eq_self, if_true, if_false, Bool.false_eq_true, reduceIte, beq_self_eq_true]) rfl) fun z => nomatch z
      | true =>
        rw [q1] at n0
        cases q2 : allTup 3 b with
        | false =>
          rw [q2] at n1
          have hb : heapsOk b = false := by
            cases b with
            | tuple ds =>
              have q2 : ds.all (tupN 3) = false := q2
              have : ds.all heapOk = false := by
                rw [Bool.eq_false_iff]
                intro z
                have : ds.all (tupN 3) = true := List.all_eq_true.mpr fun x hx => heap_tup (List.all_eq_true.mp z x hx)
                rw [q2] at this; cases this
              simp only [heapsOk, this, Bool.and_false]
            | _ => rfl
          rw [hb]
          exact seq_if (or_b (x := false) (y := true) l2 fun _ => or_b (x := false) (y := true) (not_b n0) fun _ => or_b (x := true) (y := true) (not_b n1) fun z => nomatch z) (fun _ => ret_b (x := false) (by simp only [evalSs, evalS, evalE, evalEs, evalIT, Res.bind_ok, Res.bind_bad, Res.bind_exc, Res.tame_ok, Fl.go_next, Fl.go_ret, Fl.fin_next, Fl.fin_ret, slot_some, List.getElem?_cons_zero, List.getElem?_cons_succ, List.set_cons_zero, List.set_cons_succ, put_nm, put_tu, puts_nil, puts_cons, chainK_t, chainK_f, truth_bool, truth_none, truth_int, truth_list, truth_tuple, truth_str, o2_add_i, o2_sub_i, o2_lt_i, o2_le_i, o2_gt_i, o2_ge_i, o2_is_n, o2_is_b, o2_isnot_n, o2_isnot_b, o2_eq_i, o2_eq_s, o2_eq_ns, o2_eq_b, o2_ne_b, o2_idx_t0, o2_idx_t1, o1_len_scr, o1_len_t, o1_len_l, o1_len_s, o1_not_b, o1_tuple_l, o1_list_t, o1_list_l, o1_rev_t, o1_neg_i, o1_int_b, isi_s, isi_i, isi_b, isi_n, isi_t, isi_l, isTy, isNone_n, isNone_b, isNone_i, isNone_s, isNone_t, isNone_l, isBool_b, Bool.not_true, Bool.not_false, eq_self, if_true, if_false, Bool.false_eq_true, reduceIte, beq_self_eq_true]) rfl) fun z => nomatch z
        | true =>
          rw [q2] at n1
          cases b with
          | tuple ds =>
            have q2 : ds.all (tupN 3) = true := q2
            have l0 := len_is eb 0
            rw [len0' 0 ds] at l0
            refine seq_if (or_b (x := false) (y := ds.isEmpty) l2 fun _ => or_b (x := false) (y := ds.isEmpty) (not_b n0) fun _ => or_b (x := false) (y := ds.isEmpty) (not_b n1) fun _ => l0) (fun z => ret_b (x := false) (by simp only [evalSs, evalS, evalE, evalEs, evalIT, Res.bind_ok, Res.bind_bad, Res.bind_exc, Res.tame_ok, Fl.go_next, Fl.go_ret, Fl.fin_next, Fl.fin_ret, slot_some, List.getElem?_cons_zero, List.getElem?_cons_succ, List.set_cons_zero, List.set_cons_succ, put_nm, put_tu, puts_nil, puts_cons, chainK_t, chainK_f, truth_bool, truth_none, truth_int, truth_list, truth_tuple, truth_str, o2_add_i, o2_sub_i, o2_lt_i, o2_le_i, o2_gt_i, o2_ge_i, o2_is_n, o2_is_b, o2_isnot_n, o2_isnot_b, o2_eq_i, o2_eq_s, o2_eq_ns, o2_eq_b, o2_ne_b, o2_idx_t0, o2_idx_t1, o1_len_scr, o1_len_t, o1_len_l, o1_len_s, o1_not_b, o1_tuple_l, o1_list_t, o1_list_l, o1_rev_t, o1_neg_i, o1_int_b, isi_s, isi_i, isi_b, isi_n, isi_t, isi_l, isTy, isNone_n, isNone_b, isNone_i, isNone_s, isNone_t, isNone_l, isBool_b, Bool.not_true, Bool.not_false, eq_self, if_true, if_false, Bool.false_eq_true, reduceIte, beq_self_eq_true]) ?_) fun z => ?_
            · have z : ds.isEmpty = true := by simpa using z
              simp only [heapsOk, z, Bool.not_true, Bool.false_and, Bool.and_false]
            · have z : ds.isEmpty = false := by simpa using z
              have hc : evalE ρ c_are_parts_0 [some (.str w), some (.tuple ps), none] = .ok (.list (ds.map fun d => .bool (heapOk d))) := by
                unfold c_are_parts_0
                refine comp_nm (by simp only [evalIT]; rw [eb]; rfl) fun d hd => ?_
                exact call1 (by simp only [evalSs, evalS, evalE, evalEs, evalIT, Res.bind_ok, Res.bind_bad, Res.bind_exc, Res.tame_ok, Fl.go_next, Fl.go_ret, Fl.fin_next, Fl.fin_ret, slot_some, List.getElem?_cons_zero, List.getElem?_cons_succ, List.set_cons_zero, List.set_cons_succ, put_nm, put_tu, puts_nil, puts_cons, chainK_t, chainK_f, truth_bool, truth_none, truth_int, truth_list, truth_tuple, truth_str, o2_add_i, o2_sub_i, o2_lt_i, o2_le_i, o2_gt_i, o2_ge_i, o2_is_n, o2_is_b, o2_isnot_n, o2_isnot_b, o2_eq_i, o2_eq_s, o2_eq_ns, o2_eq_b, o2_ne_b, o2_idx_t0, o2_idx_t1, o1_len_scr, o1_len_t, o1_len_l, o1_len_s, o1_not_b, o1_tuple_l, o1_list_t, o1_list_l, o1_rev_t, o1_neg_i, o1_int_b, isi_s, isi_i, isi_b, isi_n, isi_t, isi_l, isTy, isNone_n, isNone_b, isNone_i, isNone_s, isNone_t, isNone_l, isBool_b, Bool.not_true, Bool.not_false, eq_self, if_true, if_false, Bool.false_eq_true, reduceIte, beq_self_eq_true]) (hH d ((fine_tuple.mp fb).2 d hd) (List.all_eq_true.mp q2 d hd))
              refine ret_b (x := ds.all heapOk) (by simp only [evalSs, evalS, evalE, evalEs, evalIT, Res.bind_ok, Res.bind_bad, Res.bind_exc, Res.tame_ok, Fl.go_next, Fl.go_ret, Fl.fin_next, Fl.fin_ret, slot_some, List.getElem?_cons_zero, List.getElem?_cons_succ, List.set_cons_zero, List.set_cons_succ, put_nm, put_tu, puts_nil, puts_cons, chainK_t, chainK_f, truth_bool, truth_none, truth_int, truth_list, truth_tuple, truth_str, o2_add_i, o2_sub_i, o2_lt_i, o2_le_i, o2_gt_i, o2_ge_i, o2_is_n, o2_is_b, o2_isnot_n, o2_isnot_b, o2_eq_i, o2_eq_s, o2_eq_ns, o2_eq_b, o2_ne_b, o2_idx_t0, o2_idx_t1, o1_len_scr, o1_len_t, o1_len_l, o1_len_s, o1_not_b, o1_tuple_l, o1_list_t, o1_list_l, o1_rev_t, o1_neg_i, o1_int_b, isi_s, isi_i, isi_b, isi_n, isi_t, isi_l, isTy, isNone_n, isNone_b, isNone_i, isNone_s, isNone_t, isNone_l, isBool_b, Bool.not_true, Bool.not_false, eq_self, if_true, if_false, Bool.false_eq_true, reduceIte, beq_self_eq_true, hc, o1_all]) ?_
              simp only [heapsOk, z, Bool.not_false, Bool.true_and]
          | _ => cases q2
    · rw [only2_len q]
      have l2 := len_isnt hv 2
      rw [decide_eq_false q] at l2
      exact seq_if (or_b (x := true) (y := true) l2 fun z => nomatch z) (fun _ => ret_b (x := false) (by simp only [evalSs, evalS, evalE, evalEs, evalIT, Res.bind_ok, Res.bind_bad, Res.bind_exc, Res.tame_ok, Fl.go_next, Fl.go_ret, Fl.fin_next, Fl.fin_ret, slot_some, List.getElem?_cons_zero, List.getElem?_cons_succ, List.set_cons_zero, List.set_cons_succ, put_nm, put_tu, puts_nil, puts_cons, chainK_t, chainK_f, truth_bool, truth_none, truth_int, truth_list, truth_tuple, truth_str, o2_add_i, o2_sub_i, o2_lt_i, o2_le_i, o2_gt_i, o2_ge_i, o2_is_n, o2_is_b, o2_isnot_n, o2_isnot_b, o2_eq_i, o2_eq_s, o2_eq_ns, o2_eq_b, o2_ne_b, o2_idx_t0, o2_idx_t1, o1_len_scr, o1_len_t, o1_len_l, o1_len_s, o1_not_b, o1_tuple_l, o1_list_t, o1_list_l, o1_rev_t, o1_neg_i, o1_int_b, isi_s, isi_i, isi_b, isi_n, isi_t, isi_l, isTy, isNone_n, isNone_b, isNone_i, isNone_s, isNone_t, isNone_l, isBool_b, Bool.not_true, Bool.not_false, eq_self, if_true, if_false, Bool.false_eq_true, reduceIte, beq_self_eq_true]) rfl) fun z => nomatch z
  · refine seq_if (x := decide (w ∈ [w_join, w_left])) (in_tup hw (by simp only [evalSs, evalS, evalE, evalEs, evalIT, Res.bind_ok, Res.bind_bad, Res.bind_exc, Res.tame_ok, Fl.go_next, Fl.go_ret, Fl.fin_next, Fl.fin_ret, slot_some, List.getElem?_cons_zero, List.getElem?_cons_succ, List.set_cons_zero, List.set_cons_succ, put_nm, put_tu, puts_nil, puts_cons, chainK_t, chainK_f, truth_bool, truth_none, truth_int, truth_list, truth_tuple, truth_str, o2_add_i, o2_sub_i, o2_lt_i, o2_le_i, o2_gt_i, o2_ge_i, o2_is_n, o2_is_b, o2_isnot_n, o2_isnot_b, o2_eq_i, o2_eq_s, o2_eq_ns, o2_eq_b, o2_ne_b, o2_idx_t0, o2_idx_t1, o1_len_scr, o1_len_t, o1_len_l, o1_len_s, o1_not_b, o1_tuple_l, o1_list_t, o1_list_l, o1_rev_t, o1_neg_i, o1_int_b, isi_s, isi_i, isi_b, isi_n, isi_t, isi_l, isTy, isNone_n, isNone_b, isNone_i, isNone_s, isNone_t, isNone_l, isBool_b, Bool.not_true, Bool.not_false, eq_self, if_true, if_false, Bool.false_eq_true, reduceIte, beq_self_eq_true] <;> rfl) (by simp [noDict])) (fun t => ret_b (ret_only (f := pairsOk) hv fun a e => call1 (p0 e).1 (hP a (p0 e).2)) ?_) fun f8 => ?_
    · simp only [partsOk, f1, f2, f3, f4, f5, f6, f7, t, if_true, if_false, Bool.false_eq_true]
    · have l0 := len_is hv 0
      rw [len0' 0 ps] at l0
      refine ret_b (and_b (y := decide (w ∈ [w_once, w_both, w_minus])) l0 fun _ => in_tup hw (ws := [w_once, w_both, w_minus]) (by simp only [evalSs, evalS, evalE, evalEs, evalIT, Res.bind_ok, Res.bind_bad, Res.bind_exc, Res.tame_ok, Fl.go_next, Fl.go_ret, Fl.fin_next, Fl.fin_ret, slot_some, List.getElem?_cons_zero, List.getElem?_cons_succ, List.set_cons_zero, List.set_cons_succ, put_nm, put_tu, puts_nil, puts_cons, chainK_t, chainK_f, truth_bool, truth_none, truth_int, truth_list, truth_tuple, truth_str, o2_add_i, o2_sub_i, o2_lt_i, o2_le_i, o2_gt_i, o2_ge_i, o2_is_n, o2_is_b, o2_isnot_n, o2_isnot_b, o2_eq_i, o2_eq_s, o2_eq_ns, o2_eq_b, o2_ne_b, o2_idx_t0, o2_idx_t1, o1_len_scr, o1_len_t, o1_len_l, o1_len_s, o1_not_b, o1_tuple_l, o1_list_t, o1_list_l, o1_rev_t, o1_neg_i, o1_int_b, isi_s, isi_i, isi_b, isi_n, isi_t, isi_l, isTy, isNone_n, isNone_b, isNone_i, isNone_s, isNone_t, isNone_l, isBool_b, Bool.not_true, Bool.not_false, eq_self, if_true, if_false, Bool.false_eq_true, reduceIte, beq_self_eq_true] <;> rfl) (by simp [noDict])) ?_
      simp only [partsOk, f1, f2, f3, f4, f5, f6, f7, f8, if_false, Bool.false_eq_true]
def twos : List Str := [w_join, w_left, w_both, w_minus]
def manyQ (w : Str) : Nat := if decide (w ∈ twos) = true then 2 else 1
def questT (f : D → Bool) (w : Str) (rest : List D) : Bool :=
  if (w == w_table) = true then only isName rest
  else decide (manyQ w ≤ rest.length) && (rest.take (manyQ w)).all f && partsOk w (rest.drop (manyQ w))
def isQuest : Nat → D → Bool
  | 0, _ => false
  | n + 1, .tuple (.str w :: rest) => questT (isQuest n) w rest
  | _ + 1, _ => false
theorem quest_nil (f : D → Bool) (w : Str) : questT f w [] = false := by
  unfold questT
  split
  · rfl
  · have : ¬ manyQ w ≤ ([] : List D).length := by unfold manyQ; split <;> simp
    rw [decide_eq_false this]; rfl
theorem quest_in_eq : ∀ (n k : Nat) (d : D) (dp : Int), dp = n → fine 1000 d = true → callF defs (n + k + 10) F.is_quest_in [d, .int dp] = .ok (.bool (isQuest n d))
  | 0, k, d, dp, e, h => by
    subst e
    rw [u_is_quest_in]
    exact fin_of (seq_if_t (d := .bool true) (by simp only [evalSs, evalS, evalE, evalEs, evalIT, Res.bind_ok, Res.bind_bad, Res.bind_exc, Res.tame_ok, Fl.go_next, Fl.go_ret, Fl.fin_next, Fl.fin_ret, slot_some, List.getElem?_cons_zero, List.getElem?_cons_succ, List.set_cons_zero, List.set_cons_succ, put_nm, put_tu, puts_nil, puts_cons, chainK_t, chainK_f, truth_bool, truth_none, truth_int, truth_list, truth_tuple, truth_str, o2_add_i, o2_sub_i, o2_lt_i, o2_le_i, o2_gt_i, o2_ge_i, o2_is_n, o2_is_b, o2_isnot_n, o2_isnot_b, o2_eq_i, o2_eq_s, o2_eq_ns, o2_eq_b, o2_ne_b, o2_idx_t0, o2_idx_t1, o1_len_scr, o1_len_t, o1_len_l, o1_len_s, o1_not_b, o1_tuple_l, o1_list_t, o1_list_l, o1_rev_t, o1_neg_i, o1_int_b, isi_s, isi_i, isi_b, isi_n, isi_t, isi_l, isTy, isNone_n, isNone_b, isNone_i, isNone_s, isNone_t, isNone_l, isBool_b, Bool.not_true, Bool.not_false, eq_self, if_true, if_false, Bool.false_eq_true, reduceIte, beq_self_eq_true, Int.natCast_zero] <;> rfl) rfl (seq_ret (by simp only [evalSs, evalS, evalE, evalEs, evalIT, Res.bind_ok, Res.bind_bad, Res.bind_exc, Res.tame_ok, Fl.go_next, Fl.go_ret, Fl.fin_next, Fl.fin_ret, slot_some, List.getElem?_cons_zero, List.getElem?_cons_succ, List.set_cons_zero, List.set_cons_succ, put_nm, put_tu, puts_nil, puts_cons, chainK_t, chainK_f, truth_bool, truth_none, truth_int, truth_list, truth_tuple, truth_str, o2_add_i, o2_sub_i, o2_lt_i, o2_le_i, o2_gt_i, o2_ge_i, o2_is_n, o2_is_b, o2_isnot_n, o2_isnot_b, o2_eq_i, o2_eq_s, o2_eq_ns, o2_eq_b, o2_ne_b, o2_idx_t0, o2_idx_t1, o1_len_scr, o1_len_t, o1_len_l, o1_len_s, o1_not_b, o1_tuple_l, o1_list_t, o1_list_l, o1_rev_t, o1_neg_i, o1_int_b, isi_s, isi_i, isi_b, isi_n, isi_t, isi_l, isTy, isNone_n, isNone_b, isNone_i, isNone_s, isNone_t, isNone_l, isBool_b, Bool.not_true, Bool.not_false, eq_self, if_true, if_false, Bool.false_eq_true, reduceIte, beq_self_eq_true] <;> rfl)))
  | n + 1, k, d, dp, e, hf => by
    have z : (dp == 0) = false := beq_eq_false_iff_ne.mpr (by omega)
    rw [show n + 1 + k + 10 = (n + k + 10) + 1 by omega, u_is_quest_in]
    have ih : ∀ d : D, fine 1000 d = true → callF defs (n + k + 10) F.is_quest_in [d, .int (dp - 1)] = .ok (.bool (isQuest n d)) := fun d hd => quest_in_eq n k d (dp - 1) (by omega) hd
    have hN : ∀ d : D, fine 1000 d = true → callF defs (n + k + 10) F.is_name [d] = .ok (.bool (isName d)) := fun d hd => is_name_eq (n + k + 9) d (fine_noDict d hd)
    have hP : ∀ (w : Str) (ps : List D), fine 1000 (.tuple ps) = true → callF defs (n + k + 10) F.are_parts [.str w, .tuple ps] = .ok (.bool (partsOk w ps)) := fun w ps h => are_parts_eq (n + k + 1) w ps h
    generalize callF defs (n + k + 10) = ρ at ih hN hP
    have nd := fine_noDict d hf
    cases d with
    | tuple ds =>
      match ds, hf, nd with
      | [], _, _ => exact fin_of (seq_if_t (d := .bool true) (by simp only [evalSs, evalS, evalE, evalEs, evalIT, Res.bind_ok, Res.bind_bad, Res.bind_exc, Res.tame_ok, Fl.go_next, Fl.go_ret, Fl.fin_next, Fl.fin_ret, slot_some, List.getElem?_cons_zero, List.getElem?_cons_succ, List.set_cons_zero, List.set_cons_succ, put_nm, put_tu, puts_nil, puts_cons, chainK_t, chainK_f, truth_bool, truth_none, truth_int, truth_list, truth_tuple, truth_str, o2_add_i, o2_sub_i, o2_lt_i, o2_le_i, o2_gt_i, o2_ge_i, o2_is_n, o2_is_b, o2_isnot_n, o2_isnot_b, o2_eq_i, o2_eq_s, o2_eq_ns, o2_eq_b, o2_ne_b, o2_idx_t0, o2_idx_t1, o1_len_scr, o1_len_t, o1_len_l, o1_len_s, o1_not_b, o1_tuple_l, o1_list_t, o1_list_l, o1_rev_t, o1_neg_i, o1_int_b, isi_s, isi_i, isi_b, isi_n, isi_t, isi_l, isTy, isNone_n, isNone_b, isNone_i, isNone_s, isNone_t, isNone_l, isBool_b, Bool.not_true, Bool.not_false, eq_self, if_true, if_false, Bool.false_eq_true, reduceIte, beq_self_eq_true, z, len_0lt2]) rfl (seq_ret (by simp only [evalSs, evalS, evalE, evalEs, evalIT, Res.bind_ok, Res.bind_bad, Res.bind_exc, Res.tame_ok, Fl.go_next, Fl.go_ret, Fl.fin_next, Fl.fin_ret, slot_some, List.getElem?_cons_zero, List.getElem?_cons_succ, List.set_cons_zero, List.set_cons_succ, put_nm, put_tu, puts_nil, puts_cons, chainK_t, chainK_f, truth_bool, truth_none, truth_int, truth_list, truth_tuple, truth_str, o2_add_i, o2_sub_i, o2_lt_i, o2_le_i, o2_gt_i, o2_ge_i, o2_is_n, o2_is_b, o2_isnot_n, o2_isnot_b, o2_eq_i, o2_eq_s, o2_eq_ns, o2_eq_b, o2_ne_b, o2_idx_t0, o2_idx_t1, o1_len_scr, o1_len_t, o1_len_l, o1_len_s, o1_not_b, o1_tuple_l, o1_list_t, o1_list_l, o1_rev_t, o1_neg_i, o1_int_b, isi_s, isi_i, isi_b, isi_n, isi_t, isi_l, isTy, isNone_n, isNone_b, isNone_i, isNone_s, isNone_t, isNone_l, isBool_b, Bool.not_true, Bool.not_false, eq_self, if_true, if_false, Bool.false_eq_true, reduceIte, beq_self_eq_true] <;> rfl)))
      | [a], _, _ =>
        have : isQuest (n + 1) (.tuple [a]) = false := by
          cases a with
          | str w => exact quest_nil _ w
          | _ => rfl
        rw [this]
        exact fin_of (seq_if_t (d := .bool true) (by simp only [evalSs, evalS, evalE, evalEs, evalIT, Res.bind_ok, Res.bind_bad, Res.bind_exc, Res.tame_ok, Fl.go_next, Fl.go_ret, Fl.fin_next, Fl.fin_ret, slot_some, List.getElem?_cons_zero, List.getElem?_cons_succ, List.set_cons_zero, List.set_cons_succ, put_nm, put_tu, puts_nil, puts_cons, chainK_t, chainK_f, truth_bool, truth_none, truth_int, truth_list, truth_tuple, truth_str, o2_add_i, o2_sub_i, o2_lt_i, o2_le_i, o2_gt_i, o2_ge_i, o2_is_n, o2_is_b, o2_isnot_n, o2_isnot_b, o2_eq_i, o2_eq_s, o2_eq_ns, o2_eq_b, o2_ne_b, o2_idx_t0, o2_idx_t1, o1_len_scr, o1_len_t, o1_len_l, o1_len_s, o1_not_b, o1_tuple_l, o1_list_t, o1_list_l, o1_rev_t, o1_neg_i, o1_int_b, isi_s, isi_i, isi_b, isi_n, isi_t, isi_l, isTy, isNone_n, isNone_b, isNone_i, isNone_s, isNone_t, isNone_l, isBool_b, Bool.not_true, Bool.not_false, eq_self, if_true, if_false, Bool.false_eq_true, reduceIte, beq_self_eq_true, z, len_1lt2]) rfl (seq_ret (by simp only [evalSs, evalS, evalE, evalEs, evalIT, Res.bind_ok, Res.bind_bad, Res.bind_exc, Res.tame_ok, Fl.go_next, Fl.go_ret, Fl.fin_next, Fl.fin_ret, slot_some, List.getElem?_cons_zero, List.getElem?_cons_succ, List.set_cons_zero, List.set_cons_succ, put_nm, put_tu, puts_nil, puts_cons, chainK_t, chainK_f, truth_bool, truth_none, truth_int, truth_list, truth_tuple, truth_str, o2_add_i, o2_sub_i, o2_lt_i, o2_le_i, o2_gt_i, o2_ge_i, o2_is_n, o2_is_b, o2_isnot_n, o2_isnot_b, o2_eq_i, o2_eq_s, o2_eq_ns, o2_eq_b, o2_ne_b, o2_idx_t0, o2_idx_t1, o1_len_scr, o1_len_t, o1_len_l, o1_len_s, o1_not_b, o1_tuple_l, o1_list_t, o1_list_l, o1_rev_t, o1_neg_i, o1_int_b, isi_s, isi_i, isi_b, isi_n, isi_t, isi_l, isTy, isNone_n, isNone_b, isNone_i, isNone_s, isNone_t, isNone_l, isBool_b, Bool.not_true, Bool.not_false, eq_self, if_true, if_false, Bool.false_eq_true, reduceIte, beq_self_eq_true] <;> rfl)))
      | a :: b :: r, hf, nd =>
        have fm := fine_tuple.mp hf
        cases a with
        | str w =>
          show (evalSs ρ _ _).bind Fl.fin = .ok (.bool (questT (isQuest n) w (b :: r)))
          refine fin_of ((seq_if_f (d := .bool false) (by simp only [evalSs, evalS, evalE, evalEs, evalIT, Res.bind_ok, Res.bind_bad, Res.bind_exc, Res.tame_ok, Fl.go_next, Fl.go_ret, Fl.fin_next, Fl.fin_ret, slot_some, List.getElem?_cons_zero, List.getElem?_cons_succ, List.set_cons_zero, List.set_cons_succ, put_nm, put_tu, puts_nil, puts_cons, chainK_t, chainK_f, truth_bool, truth_none, truth_int, truth_list, truth_tuple, truth_str, o2_add_i, o2_sub_i, o2_lt_i, o2_le_i, o2_gt_i, o2_ge_i, o2_is_n, o2_is_b, o2_isnot_n, o2_isnot_b, o2_eq_i, o2_eq_s, o2_eq_ns, o2_eq_b, o2_ne_b, o2_idx_t0, o2_idx_t1, o1_len_scr, o1_len_t, o1_len_l, o1_len_s, o1_not_b, o1_tuple_l, o1_list_t, o1_list_l, o1_rev_t, o1_neg_i, o1_int_b, isi_s, isi_i, isi_b, isi_n, isi_t, isi_l, isTy, isNone_n, isNone_b, isNone_i, isNone_s, isNone_t, isNone_l, isBool_b, Bool.not_true, Bool.not_false, eq_self, if_true, if_false, Bool.false_eq_true, reduceIte, beq_self_eq_true, z, len_lt2]) rfl rfl).trans ((seq_asg (d := .str w) (by simp only [evalSs, evalS, evalE, evalEs, evalIT, Res.bind_ok, Res.bind_bad, Res.bind_exc, Res.tame_ok, Fl.go_next, Fl.go_ret, Fl.fin_next, Fl.fin_ret, slot_some, List.getElem?_cons_zero, List.getElem?_cons_succ, List.set_cons_zero, List.set_cons_succ, put_nm, put_tu, puts_nil, puts_cons, chainK_t, chainK_f, truth_bool, truth_none, truth_int, truth_list, truth_tuple, truth_str, o2_add_i, o2_sub_i, o2_lt_i, o2_le_i, o2_gt_i, o2_ge_i, o2_is_n, o2_is_b, o2_isnot_n, o2_isnot_b, o2_eq_i, o2_eq_s, o2_eq_ns, o2_eq_b, o2_ne_b, o2_idx_t0, o2_idx_t1, o1_len_scr, o1_len_t, o1_len_l, o1_len_s, o1_not_b, o1_tuple_l, o1_list_t, o1_list_l, o1_rev_t, o1_neg_i, o1_int_b, isi_s, isi_i, isi_b, isi_n, isi_t, isi_l, isTy, isNone_n, isNone_b, isNone_i, isNone_s, isNone_t, isNone_l, isBool_b, Bool.not_true, Bool.not_false, eq_self, if_true, if_false, Bool.false_eq_true, reduceIte, beq_self_eq_true])).trans ?_))
          have hv : ∀ o3 o4 : Option D, evalE ρ (.var 0) [some (.tuple (.str w :: b :: r)), some (.int dp), some (.str w), o3, o4] = .ok (.tuple (.str w :: b :: r)) := fun o3 o4 => by simp only [evalSs, evalS, evalE, evalEs, evalIT, Res.bind_ok, Res.bind_bad, Res.bind_exc, Res.tame_ok, Fl.go_next, Fl.go_ret, Fl.fin_next, Fl.fin_ret, slot_some, List.getElem?_cons_zero, List.getElem?_cons_succ, List.set_cons_zero, List.set_cons_succ, put_nm, put_tu, puts_nil, puts_cons, chainK_t, chainK_f, truth_bool, truth_none, truth_int, truth_list, truth_tuple, truth_str, o2_add_i, o2_sub_i, o2_lt_i, o2_le_i, o2_gt_i, o2_ge_i, o2_is_n, o2_is_b, o2_isnot_n, o2_isnot_b, o2_eq_i, o2_eq_s, o2_eq_ns, o2_eq_b, o2_ne_b, o2_idx_t0, o2_idx_t1, o1_len_scr, o1_len_t, o1_len_l, o1_len_s, o1_not_b, o1_tuple_l, o1_list_t, o1_list_l, o1_rev_t, o1_neg_i, o1_int_b, isi_s, isi_i, isi_b, isi_n, isi_t, isi_l, isTy, isNone_n, isNone_b, isNone_i, isNone_s, isNone_t, isNone_l, isBool_b, Bool.not_true, Bool.not_false, eq_self, if_true, if_false, Bool.false_eq_true, reduceIte, beq_self_eq_true]
          have hw : ∀ o3 o4 : Option D, evalE ρ (.var 2) [some (.tuple (.str w :: b :: r)), some (.int dp), some (.str w), o3, o4] = .ok (.str w) := fun o3 o4 => by simp only [evalSs, evalS, evalE, evalEs, evalIT, Res.bind_ok, Res.bind_bad, Res.bind_exc, Res.tame_ok, Fl.go_next, Fl.go_ret, Fl.fin_next, Fl.fin_ret, slot_some, List.getElem?_cons_zero, List.getElem?_cons_succ, List.set_cons_zero, List.set_cons_succ, put_nm, put_tu, puts_nil, puts_cons, chainK_t, chainK_f, truth_bool, truth_none, truth_int, truth_list, truth_tuple, truth_str, o2_add_i, o2_sub_i, o2_lt_i, o2_le_i, o2_gt_i, o2_ge_i, o2_is_n, o2_is_b, o2_isnot_n, o2_isnot_b, o2_eq_i, o2_eq_s, o2_eq_ns, o2_eq_b, o2_ne_b, o2_idx_t0, o2_idx_t1, o1_len_scr, o1_len_t, o1_len_l, o1_len_s, o1_not_b, o1_tuple_l, o1_list_t, o1_list_l, o1_rev_t, o1_neg_i, o1_int_b, isi_s, isi_i, isi_b, isi_n, isi_t, isi_l, isTy, isNone_n, isNone_b, isNone_i, isNone_s, isNone_t, isNone_l, isBool_b, Bool.not_true, Bool.not_false, eq_self, if_true, if_false, Bool.false_eq_true, reduceIte, beq_self_eq_true]
          refine seq_if (o2_is_s (hw none none)) (fun t => ?_) fun f => ?_
          · have e1 : questT (isQuest n) w (b :: r) = only isName (b :: r) := by simp only [questT, t, if_true]
            rw [e1]
            have l := len_is (hv none none) 2
            by_cases q : r = []
            · subst q
              have l : evalE ρ (.o2 .eq (.o1 .len (.var 0)) (.int 2)) [some (.tuple [.str w, b]), some (.int dp), some (.str w), none, none] = .ok (.bool true) := l
              exact ret_b (and_b (y := isName b) l fun _ => call1 (idx_at (i := 1) (hv none none) rfl) (hN b (fm.2 b (by simp)))) rfl
            · have hl : 0 < r.length := List.length_pos_iff.mpr q
              rw [decide_eq_false (by simp only [List.length_cons]; omega)] at l
              rw [only_len (by simp only [List.length_cons]; omega)]
              exact ret_b (and_b (y := false) l fun z => nomatch z) rfl
          · have hin : op2 .in_ (.str w) (.tuple [.str w_join, .str w_left, .str w_both, .str w_minus]) = .ok (.bool (decide (w ∈ twos))) := in_ws w twos
            have hm : evalE ρ (.o2 .add (.int 1) (.o1 .int (.o2 .in_ (.var 2) (.tup (.cons (.str w_join) (.cons (.str w_left) (.cons (.str w_both) (.cons (.str w_minus) .nil)))))))) [some (.tuple (.str w :: b :: r)), some (.int dp), some (.str w), none, none] = .ok (.int (manyQ w : Nat)) := by
              simp only [evalSs, evalS, evalE, evalEs, evalIT, Res.bind_ok, Res.bind_bad, Res.bind_exc, Res.tame_ok, Fl.go_next, Fl.go_ret, Fl.fin_next, Fl.fin_ret, slot_some, List.getElem?_cons_zero, List.getElem?_cons_succ, List.set_cons_zero, List.set_cons_succ, put_nm, put_tu, puts_nil, puts_cons, chainK_t, chainK_f, truth_bool, truth_none, truth_int, truth_list, truth_tuple, truth_str, o2_add_i, o2_sub_i, o2_lt_i, o2_le_i, o2_gt_i, o2_ge_i, o2_is_n, o2_is_b, o2_isnot_n, o2_isnot_b, o2_eq_i, o2_eq_s, o2_eq_ns, o2_eq_b, o2_ne_b, o2_idx_t0, o2_idx_t1, o1_len_scr, o1_len_t, o1_len_l, o1_len_s, o1_not_b, o1_tuple_l, o1_list_t, o1_list_l, o1_rev_t, o1_neg_i, o1_int_b, isi_s, isi_i, isi_b, isi_n, isi_t, isi_l, isTy, isNone_n, isNone_b, isNone_i, isNone_s, isNone_t, isNone_l, isBool_b, Bool.not_true, Bool.not_false, eq_self, if_true, if_false, Bool.false_eq_true, reduceIte, beq_self_eq_true, hin]
              unfold manyQ
              cases decide (w ∈ twos) <;> rfl
            refine (seq_asg hm).trans ?_
            have m1 : manyQ w = 1 ∨ manyQ w = 2 := by unfold manyQ; split <;> simp
            have e1 : questT (isQuest n) w (b :: r) = (decide (manyQ w ≤ (b :: r).length) && ((b :: r).take (manyQ w)).all (isQuest n) && partsOk w ((b :: r).drop (manyQ w))) := by simp only [questT, f, if_false, Bool.false_eq_true]
            rw [e1]
            generalize manyQ w = m at m1
            have lt : evalE ρ (.o2 .lt (.o1 .len (.var 0)) (.o2 .add (.var 3) (.int 1))) [some (.tuple (.str w :: b :: r)), some (.int dp), some (.str w), some (.int (m : Nat)), none] = .ok (.bool (!decide (m ≤ (b :: r).length))) := by
              simp only [evalSs, evalS, evalE, evalEs, evalIT, Res.bind_ok, Res.bind_bad, Res.bind_exc, Res.tame_ok, Fl.go_next, Fl.go_ret, Fl.fin_next, Fl.fin_ret, slot_some, List.getElem?_cons_zero, List.getElem?_cons_succ, List.set_cons_zero, List.set_cons_succ, put_nm, put_tu, puts_nil, puts_cons, chainK_t, chainK_f, truth_bool, truth_none, truth_int, truth_list, truth_tuple, truth_str, o2_add_i, o2_sub_i, o2_lt_i, o2_le_i, o2_gt_i, o2_ge_i, o2_is_n, o2_is_b, o2_isnot_n, o2_isnot_b, o2_eq_i, o2_eq_s, o2_eq_ns, o2_eq_b, o2_ne_b, o2_idx_t0, o2_idx_t1, o1_len_scr, o1_len_t, o1_len_l, o1_len_s, o1_not_b, o1_tuple_l, o1_list_t, o1_list_l, o1_rev_t, o1_neg_i, o1_int_b, isi_s, isi_i, isi_b, isi_n, isi_t, isi_l, isTy, isNone_n, isNone_b, isNone_i, isNone_s, isNone_t, isNone_l, isBool_b, Bool.not_true, Bool.not_false, eq_self, if_true, if_false, Bool.false_eq_true, reduceIte, beq_self_eq_true]
              congr 2
              simp only [List.length_cons]
              by_cases q : m ≤ r.length + 1
              · rw [decide_eq_true q, decide_eq_false (by push_cast; omega)]; rfl
              · rw [decide_eq_false q, decide_eq_true (by push_cast; omega)]; rfl
            cases q : decide (m ≤ (b :: r).length) with
            | false =>
              rw [q] at lt
              exact seq_if (or_b (x := true) (y := true) lt fun z => nomatch z) (fun _ => ret_b (x := false) (by simp only [evalSs, evalS, evalE, evalEs, evalIT, Res.bind_ok, Res.bind_bad, Res.bind_exc, Res.tame_ok, Fl.go_next, Fl.go_ret, Fl.fin_next, Fl.fin_ret, slot_some, List.getElem?_cons_zero, List.getElem?_cons_succ, List.set_cons_zero, List.set_cons_succ, put_nm, put_tu, puts_nil, puts_cons, chainK_t, chainK_f, truth_bool, truth_none, truth_int, truth_list, truth_tuple, truth_str, o2_add_i, o2_sub_i, o2_lt_i, o2_le_i, o2_gt_i, o2_ge_i, o2_is_n, o2_is_b, o2_isnot_n, o2_isnot_b, o2_eq_i, o2_eq_s, o2_eq_ns, o2_eq_b, o2_ne_b, o2_idx_t0, o2_idx_t1, o1_len_scr, o1_len_t, o1_len_l, o1_len_s, o1_not_b, o1_tuple_l, o1_list_t, o1_list_l, o1_rev_t, o1_neg_i, o1_int_b, isi_s, isi_i, isi_b, isi_n, isi_t, isi_l, isTy, isNone_n, isNone_b, isNone_i, isNone_s, isNone_t, isNone_l, isBool_b, Bool.not_true, Bool.not_false, eq_self, if_true, if_false, Bool.false_eq_true, reduceIte, beq_self_eq_true]) (by simp)) fun z => nomatch z
            | true =>
              rw [q] at lt
              have q' : m ≤ (b :: r).length := of_decide_eq_true q
              have sl1 : op3 .sl (.tuple (.str w :: b :: r)) (.int 1) (.int ((m : Int) + 1)) = .ok (.tuple ((b :: r).take m)) := by
                rw [o3_sl_t _ _ _ (bound_i _) (bound_i _)]
                congr 2
                unfold cutL HT.sIx
                simp only [List.length_cons] at q'
                simp only [if_neg (show ¬ (1 : Int) < 0 by omega), if_neg (show ¬ (m : Int) + 1 < 0 by omega), List.length_cons]
                rw [show min (1 : Int).toNat (r.length + 1 + 1) = 1 by simp, show min ((m : Int) + 1).toNat (r.length + 1 + 1) = m + 1 by omega]
                rfl
              have sl2 : op3 .sl (.tuple (.str w :: b :: r)) (.int ((m : Int) + 1)) .none = .ok (.tuple ((b :: r).drop m)) := by
                rw [o3_sl_t _ _ _ (bound_i _) bound_n, cut_from _ _ (by omega), show ((m : Int) + 1).toNat = m + 1 by omega]; rfl
              have hc : evalE ρ c_is_quest_in_0 [some (.tuple (.str w :: b :: r)), some (.int dp), some (.str w), some (.int (m : Nat)), none] = .ok (.list (((b :: r).take m).map fun d => .bool (isQuest n d))) := by
                unfold c_is_quest_in_0
                refine comp_nm (by simp only [evalSs, evalS, evalE, evalEs, evalIT, Res.bind_ok, Res.bind_bad, Res.bind_exc, Res.tame_ok, Fl.go_next, Fl.go_ret, Fl.fin_next, Fl.fin_ret, slot_some, List.getElem?_cons_zero, List.getElem?_cons_succ, List.set_cons_zero, List.set_cons_succ, put_nm, put_tu, puts_nil, puts_cons, chainK_t, chainK_f, truth_bool, truth_none, truth_int, truth_list, truth_tuple, truth_str, o2_add_i, o2_sub_i, o2_lt_i, o2_le_i, o2_gt_i, o2_ge_i, o2_is_n, o2_is_b, o2_isnot_n, o2_isnot_b, o2_eq_i, o2_eq_s, o2_eq_ns, o2_eq_b, o2_ne_b, o2_idx_t0, o2_idx_t1, o1_len_scr, o1_len_t, o1_len_l, o1_len_s, o1_not_b, o1_tuple_l, o1_list_t, o1_list_l, o1_rev_t, o1_neg_i, o1_int_b, isi_s, isi_i, isi_b, isi_n, isi_t, isi_l, isTy, isNone_n, isNone_b, isNone_i, isNone_s, isNone_t, isNone_l, isBool_b, Bool.not_true, Bool.not_false, eq_self, if_true, if_false, Bool.false_eq_true, reduceIte, beq_self_eq_true, sl1, itemsOf]) fun d hd => ?_
                have := ih d (fm.2 d (List.mem_cons_of_mem _ (List.mem_of_mem_take hd)))
                simp only [evalSs, evalS, evalE, evalEs, evalIT, Res.bind_ok, Res.bind_bad, Res.bind_exc, Res.tame_ok, Fl.go_next, Fl.go_ret, Fl.fin_next, Fl.fin_ret, slot_some, List.getElem?_cons_zero, List.getElem?_cons_succ, List.set_cons_zero, List.set_cons_succ, put_nm, put_tu, puts_nil, puts_cons, chainK_t, chainK_f, truth_bool, truth_none, truth_int, truth_list, truth_tuple, truth_str, o2_add_i, o2_sub_i, o2_lt_i, o2_le_i, o2_gt_i, o2_ge_i, o2_is_n, o2_is_b, o2_isnot_n, o2_isnot_b, o2_eq_i, o2_eq_s, o2_eq_ns, o2_eq_b, o2_ne_b, o2_idx_t0, o2_idx_t1, o1_len_scr, o1_len_t, o1_len_l, o1_len_s, o1_not_b, o1_tuple_l, o1_list_t, o1_list_l, o1_rev_t, o1_neg_i, o1_int_b, isi_s, isi_i, isi_b, isi_n, isi_t, isi_l, isTy, isNone_n, isNone_b, isNone_i, isNone_s, isNone_t, isNone_l, isBool_b, Bool.not_true, Bool.not_false, eq_self, if_true, if_false, Bool.false_eq_true, reduceIte, beq_self_eq_true, this]
              have fd : fine 1000 (.tuple ((b :: r).drop m)) = true := by
                rw [fine_tuple]
                have := fm.1
                simp only [List.length_cons] at this
                exact ⟨by rw [List.length_drop, List.length_cons]; omega, fun d hd => fm.2 d (List.mem_cons_of_mem _ (List.mem_of_mem_drop hd))⟩
              cases qa : ((b :: r).take m).all (isQuest n) with
              | false => exact seq_if (or_b (x := false) (y := true) lt fun _ => not_b (x := false) (by simp only [evalSs, evalS, evalE, evalEs, evalIT, Res.bind_ok, Res.bind_bad, Res.bind_exc, Res.tame_ok, Fl.go_next, Fl.go_ret, Fl.fin_next, Fl.fin_ret, slot_some, List.getElem?_cons_zero, List.getElem?_cons_succ, List.set_cons_zero, List.set_cons_succ, put_nm, put_tu, puts_nil, puts_cons, chainK_t, chainK_f, truth_bool, truth_none, truth_int, truth_list, truth_tuple, truth_str, o2_add_i, o2_sub_i, o2_lt_i, o2_le_i, o2_gt_i, o2_ge_i, o2_is_n, o2_is_b, o2_isnot_n, o2_isnot_b, o2_eq_i, o2_eq_s, o2_eq_ns, o2_eq_b, o2_ne_b, o2_idx_t0, o2_idx_t1, o1_len_scr, o1_len_t, o1_len_l, o1_len_s, o1_not_b, o1_tuple_l, o1_list_t, o1_list_l, o1_rev_t, o1_neg_i, o1_int_b, isi_s, isi_i, isi_b, isi_n, isi_t, isi_l, isTy, isNone_n, isNone_b, isNone_i, isNone_s, isNone_t, isNone_l, isBool_b, Bool.not_true, Bool.not_false, eq_self, if_true, if_false, Bool.false_eq_true, reduceIte, beq_self_eq_true, hc, o1_all, qa])) (fun _ => ret_b (x := false) (by simp only [evalSs, evalS, evalE, evalEs, evalIT, Res.bind_ok, Res.bind_bad, Res.bind_exc, Res.tame_ok, Fl.go_next, Fl.go_ret, Fl.fin_next, Fl.fin_ret, slot_some, List.getElem?_cons_zero, List.getElem?_cons_succ, List.set_cons_zero, List.set_cons_succ, put_nm, put_tu, puts_nil, puts_cons, chainK_t, chainK_f, truth_bool, truth_none, truth_int, truth_list, truth_tuple, truth_str, o2_add_i, o2_sub_i, o2_lt_i, o2_le_i, o2_gt_i, o2_ge_i, o2_is_n, o2_is_b, o2_isnot_n, o2_isnot_b, o2_eq_i, o2_eq_s, o2_eq_ns, o2_eq_b, o2_ne_b, o2_idx_t0, o2_idx_t1, o1_len_scr, o1_len_t, o1_len_l, o1_len_s, o1_not_b, o1_tuple_l, o1_list_t, o1_list_l, o1_rev_t, o1_neg_i, o1_int_b, isi_s, isi_i, isi_b, isi_n, isi_t, isi_l, isTy, isNone_n, isNone_b, isNone_i, isNone_s, isNone_t, isNone_l, isBool_b, Bool.not_true, Bool.not_false, eq_self, if_true, if_false, Bool.false_eq_true, reduceIte, beq_self_eq_true]) (by simp)) fun z => nomatch z
              | true => exact seq_if (or_b (x := false) (y := false) lt fun _ => not_b (x := true) (by simp only [evalSs, evalS, evalE, evalEs, evalIT, Res.bind_ok, Res.bind_bad, Res.bind_exc, Res.tame_ok, Fl.go_next, Fl.go_ret, Fl.fin_next, Fl.fin_ret, slot_some, List.getElem?_cons_zero, List.getElem?_cons_succ, List.set_cons_zero, List.set_cons_succ, put_nm, put_tu, puts_nil, puts_cons, chainK_t, chainK_f, truth_bool, truth_none, truth_int, truth_list, truth_tuple, truth_str, o2_add_i, o2_sub_i, o2_lt_i, o2_le_i, o2_gt_i, o2_ge_i, o2_is_n, o2_is_b, o2_isnot_n, o2_isnot_b, o2_eq_i, o2_eq_s, o2_eq_ns, o2_eq_b, o2_ne_b, o2_idx_t0, o2_idx_t1, o1_len_scr, o1_len_t, o1_len_l, o1_len_s, o1_not_b, o1_tuple_l, o1_list_t, o1_list_l, o1_rev_t, o1_neg_i, o1_int_b, isi_s, isi_i, isi_b, isi_n, isi_t, isi_l, isTy, isNone_n, isNone_b, isNone_i, isNone_s, isNone_t, isNone_l, isBool_b, Bool.not_true, Bool.not_false, eq_self, if_true, if_false, Bool.false_eq_true, reduceIte, beq_self_eq_true, hc, o1_all, qa])) (fun z => nomatch z) fun _ => ret_b (call2 (by simp only [evalSs, evalS, evalE, evalEs, evalIT, Res.bind_ok, Res.bind_bad, Res.bind_exc, Res.tame_ok, Fl.go_next, Fl.go_ret, Fl.fin_next, Fl.fin_ret, slot_some, List.getElem?_cons_zero, List.getElem?_cons_succ, List.set_cons_zero, List.set_cons_succ, put_nm, put_tu, puts_nil, puts_cons, chainK_t, chainK_f, truth_bool, truth_none, truth_int, truth_list, truth_tuple, truth_str, o2_add_i, o2_sub_i, o2_lt_i, o2_le_i, o2_gt_i, o2_ge_i, o2_is_n, o2_is_b, o2_isnot_n, o2_isnot_b, o2_eq_i, o2_eq_s, o2_eq_ns, o2_eq_b, o2_ne_b, o2_idx_t0, o2_idx_t1, o1_len_scr, o1_len_t, o1_len_l, o1_len_s, o1_not_b, o1_tuple_l, o1_list_t, o1_list_l, o1_rev_t, o1_neg_i, o1_int_b, isi_s, isi_i, isi_b, isi_n, isi_t, isi_l, isTy, isNone_n, isNone_b, isNone_i, isNone_s, isNone_t, isNone_l, isBool_b, Bool.not_true, Bool.not_false, eq_self, if_true, if_false, Bool.false_eq_true, reduceIte, beq_self_eq_true]) (by simp only [evalSs, evalS, evalE, evalEs, evalIT, Res.bind_ok, Res.bind_bad, Res.bind_exc, Res.tame_ok, Fl.go_next, Fl.go_ret, Fl.fin_next, Fl.fin_ret, slot_some, List.getElem?_cons_zero, List.getElem?_cons_succ, List.set_cons_zero, List.set_cons_succ, put_nm, put_tu, puts_nil, puts_cons, chainK_t, chainK_f, truth_bool, truth_none, truth_int, truth_list, truth_tuple, truth_str, o2_add_i, o2_sub_i, o2_lt_i, o2_le_i, o2_gt_i, o2_ge_i, o2_is_n, o2_is_b, o2_isnot_n, o2_isnot_b, o2_eq_i, o2_eq_s, o2_eq_ns, o2_eq_b, o2_ne_b, o2_idx_t0, o2_idx_t1, o1_len_scr, o1_len_t, o1_len_l, o1_len_s, o1_not_b, o1_tuple_l, o1_list_t, o1_list_l, o1_rev_t, o1_neg_i, o1_int_b, isi_s, isi_i, isi_b, isi_n, isi_t, isi_l, isTy, isNone_n, isNone_b, isNone_i, isNone_s, isNone_t, isNone_l, isBool_b, Bool.not_true, Bool.not_false, eq_self, if_true, if_false, Bool.false_eq_true, reduceIte, beq_self_eq_true, sl2] <;> rfl) (hP w _ fd)) (by simp)
        | dict _ => simp [noDict, noDicts] at nd
        | _ => exact fin_of (seq_if_t (d := .bool true) (by simp only [evalSs, evalS, evalE, evalEs, evalIT, Res.bind_ok, Res.bind_bad, Res.bind_exc, Res.tame_ok, Fl.go_next, Fl.go_ret, Fl.fin_next, Fl.fin_ret, slot_some, List.getElem?_cons_zero, List.getElem?_cons_succ, List.set_cons_zero, List.set_cons_succ, put_nm, put_tu, puts_nil, puts_cons, chainK_t, chainK_f, truth_bool, truth_none, truth_int, truth_list, truth_tuple, truth_str, o2_add_i, o2_sub_i, o2_lt_i, o2_le_i, o2_gt_i, o2_ge_i, o2_is_n, o2_is_b, o2_isnot_n, o2_isnot_b, o2_eq_i, o2_eq_s, o2_eq_ns, o2_eq_b, o2_ne_b, o2_idx_t0, o2_idx_t1, o1_len_scr, o1_len_t, o1_len_l, o1_len_s, o1_not_b, o1_tuple_l, o1_list_t, o1_list_l, o1_rev_t, o1_neg_i, o1_int_b, isi_s, isi_i, isi_b, isi_n, isi_t, isi_l, isTy, isNone_n, isNone_b, isNone_i, isNone_s, isNone_t, isNone_l, isBool_b, Bool.not_true, Bool.not_false, eq_self, if_true, if_false, Bool.false_eq_true, reduceIte, beq_self_eq_true, z, len_lt2]) rfl (seq_ret (by simp only [evalSs, evalS, evalE, evalEs, evalIT, Res.bind_ok, Res.bind_bad, Res.bind_exc, Res.tame_ok, Fl.go_next, Fl.go_ret, Fl.fin_next, Fl.fin_ret, slot_some, List.getElem?_cons_zero, List.getElem?_cons_succ, List.set_cons_zero, List.set_cons_succ, put_nm, put_tu, puts_nil, puts_cons, chainK_t, chainK_f, truth_bool, truth_none, truth_int, truth_list, truth_tuple, truth_str, o2_add_i, o2_sub_i, o2_lt_i, o2_le_i, o2_gt_i, o2_ge_i, o2_is_n, o2_is_b, o2_isnot_n, o2_isnot_b, o2_eq_i, o2_eq_s, o2_eq_ns, o2_eq_b, o2_ne_b, o2_idx_t0, o2_idx_t1, o1_len_scr, o1_len_t, o1_len_l, o1_len_s, o1_not_b, o1_tuple_l, o1_list_t, o1_list_l, o1_rev_t, o1_neg_i, o1_int_b, isi_s, isi_i, isi_b, isi_n, isi_t, isi_l, isTy, isNone_n, isNone_b, isNone_i, isNone_s, isNone_t, isNone_l, isBool_b, Bool.not_true, Bool.not_false, eq_self, if_true, if_false, Bool.false_eq_true, reduceIte, beq_self_eq_true] <;> rfl)))
    | dict _ => simp [noDict] at nd
    | _ => exact fin_of (seq_if_t (d := .bool true) (by simp only [evalSs, evalS, evalE, evalEs, evalIT, Res.bind_ok, Res.bind_bad, Res.bind_exc, Res.tame_ok, Fl.go_next, Fl.go_ret, Fl.fin_next, Fl.fin_ret, slot_some, List.getElem?_cons_zero, List.getElem?_cons_succ, List.set_cons_zero, List.set_cons_succ, put_nm, put_tu, puts_nil, puts_cons, chainK_t, chainK_f, truth_bool, truth_none, truth_int, truth_list, truth_tuple, truth_str, o2_add_i, o2_sub_i, o2_lt_i, o2_le_i, o2_gt_i, o2_ge_i, o2_is_n, o2_is_b, o2_isnot_n, o2_isnot_b, o2_eq_i, o2_eq_s, o2_eq_ns, o2_eq_b, o2_ne_b, o2_idx_t0, o2_idx_t1, o1_len_scr, o1_len_t, o1_len_l, o1_len_s, o1_not_b, o1_tuple_l, o1_list_t, o1_list_l, o1_rev_t, o1_neg_i, o1_int_b, isi_s, isi_i, isi_b, isi_n, isi_t, isi_l, isTy, isNone_n, isNone_b, isNone_i, isNone_s, isNone_t, isNone_l, isBool_b, Bool.not_true, Bool.not_false, eq_self, if_true, if_false, Bool.false_eq_true, reduceIte, beq_self_eq_true, z]) rfl (seq_ret (by simp only [evalSs, evalS, evalE, evalEs, evalIT, Res.bind_ok, Res.bind_bad, Res.bind_exc, Res.tame_ok, Fl.go_next, Fl.go_ret, Fl.fin_next, Fl.fin_ret, slot_some, List.getElem?_cons_zero, List.getElem?_cons_succ, List.set_cons_zero, List.set_cons_succ, put_nm, put_tu, puts_nil, puts_cons, chainK_t, chainK_f, truth_bool, truth_none, truth_int, truth_list, truth_tuple, truth_str, o2_add_i, o2_sub_i, o2_lt_i, o2_le_i, o2_gt_i, o2_ge_i, o2_is_n, o2_is_b, o2_isnot_n, o2_isnot_b, o2_eq_i, o2_eq_s, o2_eq_ns, o2_eq_b, o2_ne_b, o2_idx_t0, o2_idx_t1, o1_len_scr, o1_len_t, o1_len_l, o1_len_s, o1_not_b, o1_tuple_l, o1_list_t, o1_list_l, o1_rev_t, o1_neg_i, o1_int_b, isi_s, isi_i, isi_b, isi_n, isi_t, isi_l, isTy, isNone_n, isNone_b, isNone_i, isNone_s, isNone_t, isNone_l, isBool_b, Bool.not_true, Bool.not_false, eq_self, if_true, if_false, Bool.false_eq_true, reduceIte, beq_self_eq_true] <;> rfl)))
theorem is_quest_eq (k : Nat) (d : D) (h : fine 1000 d = true) : callF defs (k + 17) F.is_quest [d] = .ok (.bool (isQuest 6 d)) := by
  rw [u_is_quest]
  have := quest_in_eq 6 k d 6 rfl h
  rw [show 6 + k + 10 = k + 16 by omega] at this
  simp only [evalSs, evalS, evalE, evalEs, evalIT, Res.bind_ok, Res.bind_bad, Res.bind_exc, Res.tame_ok, Fl.go_next, Fl.go_ret, Fl.fin_next, Fl.fin_ret, slot_some, List.getElem?_cons_zero, List.getElem?_cons_succ, List.set_cons_zero, List.set_cons_succ, put_nm, put_tu, puts_nil, puts_cons, chainK_t, chainK_f, truth_bool, truth_none, truth_int, truth_list, truth_tuple, truth_str, o2_add_i, o2_sub_i, o2_lt_i, o2_le_i, o2_gt_i, o2_ge_i, o2_is_n, o2_is_b, o2_isnot_n, o2_isnot_b, o2_eq_i, o2_eq_s, o2_eq_ns, o2_eq_b, o2_ne_b, o2_idx_t0, o2_idx_t1, o1_len_scr, o1_len_t, o1_len_l, o1_len_s, o1_not_b, o1_tuple_l, o1_list_t, o1_list_l, o1_rev_t, o1_neg_i, o1_int_b, isi_s, isi_i, isi_b, isi_n, isi_t, isi_l, isTy, isNone_n, isNone_b, isNone_i, isNone_s, isNone_t, isNone_l, isBool_b, Bool.not_true, Bool.not_false, eq_self, if_true, if_false, Bool.false_eq_true, reduceIte, beq_self_eq_true, f_is_quest, this]
/-! the law's own look at questions -/
theorem law_names_eq (n : Nat) (d : D) (k : Nat) (hf : fine 1000 d = true) : callF defs (n + 2) F.law_are_names [d, .int k] = .ok (.bool (areNames k d)) := by
  rw [u_law_are_names]
  have nd := fine_noDict d hf
  cases d with
  | tuple ds =>
    have hl := (fine_tuple.mp hf).1
    have nds : noDicts ds = true := by simpa [noDict] using nd
    have hc : evalE (callF defs (n + 1)) c_law_are_names_0 [some (.tuple ds), some (.int k), none] = .ok (.list ((ds.filter fun d => !isName d).map id)) := by
      unfold c_law_are_names_0
      refine compIf_any (by simp only [evalSs, evalS, evalE, evalEs, evalIT, Res.bind_ok, Res.bind_bad, Res.bind_exc, Res.tame_ok, Fl.go_next, Fl.go_ret, Fl.fin_next, Fl.fin_ret, slot_some, List.getElem?_cons_zero, List.getElem?_cons_succ, List.set_cons_zero, List.set_cons_succ, put_nm, put_tu, puts_nil, puts_cons, chainK_t, chainK_f, truth_bool, truth_none, truth_int, truth_list, truth_tuple, truth_str, o2_add_i, o2_sub_i, o2_lt_i, o2_le_i, o2_gt_i, o2_ge_i, o2_is_n, o2_is_b, o2_isnot_n, o2_isnot_b, o2_eq_i, o2_eq_s, o2_eq_ns, o2_eq_b, o2_ne_b, o2_idx_t0, o2_idx_t1, o1_len_scr, o1_len_t, o1_len_l, o1_len_s, o1_not_b, o1_tuple_l, o1_list_t, o1_list_l, o1_rev_t, o1_neg_i, o1_int_b, isi_s, isi_i, isi_b, isi_n, isi_t, isi_l, isTy, isNone_n, isNone_b, isNone_i, isNone_s, isNone_t, isNone_l, isBool_b, Bool.not_true, Bool.not_false, eq_self, if_true, if_false, Bool.false_eq_true, reduceIte, beq_self_eq_true, itemsOf]) fun d hd => ?_
      have := law_name_eq n d (noDicts_mem nds hd)
      exact ⟨_, by simp only [evalSs, evalS, evalE, evalEs, evalIT, Res.bind_ok, Res.bind_bad, Res.bind_exc, Res.tame_ok, Fl.go_next, Fl.go_ret, Fl.fin_next, Fl.fin_ret, slot_some, List.getElem?_cons_zero, List.getElem?_cons_succ, List.set_cons_zero, List.set_cons_succ, put_nm, put_tu, puts_nil, puts_cons, chainK_t, chainK_f, truth_bool, truth_none, truth_int, truth_list, truth_tuple, truth_str, o2_add_i, o2_sub_i, o2_lt_i, o2_le_i, o2_gt_i, o2_ge_i, o2_is_n, o2_is_b, o2_isnot_n, o2_isnot_b, o2_eq_i, o2_eq_s, o2_eq_ns, o2_eq_b, o2_ne_b, o2_idx_t0, o2_idx_t1, o1_len_scr, o1_len_t, o1_len_l, o1_len_s, o1_not_b, o1_tuple_l, o1_list_t, o1_list_l, o1_rev_t, o1_neg_i, o1_int_b, isi_s, isi_i, isi_b, isi_n, isi_t, isi_l, isTy, isNone_n, isNone_b, isNone_i, isNone_s, isNone_t, isNone_l, isBool_b, Bool.not_true, Bool.not_false, eq_self, if_true, if_false, Bool.false_eq_true, reduceIte, beq_self_eq_true] <;> rfl, by simp only [evalSs, evalS, evalE, evalEs, evalIT, Res.bind_ok, Res.bind_bad, Res.bind_exc, Res.tame_ok, Fl.go_next, Fl.go_ret, Fl.fin_next, Fl.fin_ret, slot_some, List.getElem?_cons_zero, List.getElem?_cons_succ, List.set_cons_zero, List.set_cons_succ, put_nm, put_tu, puts_nil, puts_cons, chainK_t, chainK_f, truth_bool, truth_none, truth_int, truth_list, truth_tuple, truth_str, o2_add_i, o2_sub_i, o2_lt_i, o2_le_i, o2_gt_i, o2_ge_i, o2_is_n, o2_is_b, o2_isnot_n, o2_isnot_b, o2_eq_i, o2_eq_s, o2_eq_ns, o2_eq_b, o2_ne_b, o2_idx_t0, o2_idx_t1, o1_len_scr, o1_len_t, o1_len_l, o1_len_s, o1_not_b, o1_tuple_l, o1_list_t, o1_list_l, o1_rev_t, o1_neg_i, o1_int_b, isi_s, isi_i, isi_b, isi_n, isi_t, isi_l, isTy, isNone_n, isNone_b, isNone_i, isNone_s, isNone_t, isNone_l, isBool_b, Bool.not_true, Bool.not_false, eq_self, if_true, if_false, Bool.false_eq_true, reduceIte, beq_self_eq_true, this], fun _ => by simp only [evalSs, evalS, evalE, evalEs, evalIT, Res.bind_ok, Res.bind_bad, Res.bind_exc, Res.tame_ok, Fl.go_next, Fl.go_ret, Fl.fin_next, Fl.fin_ret, slot_some, List.getElem?_cons_zero, List.getElem?_cons_succ, List.set_cons_zero, List.set_cons_succ, put_nm, put_tu, puts_nil, puts_cons, chainK_t, chainK_f, truth_bool, truth_none, truth_int, truth_list, truth_tuple, truth_str, o2_add_i, o2_sub_i, o2_lt_i, o2_le_i, o2_gt_i, o2_ge_i, o2_is_n, o2_is_b, o2_isnot_n, o2_isnot_b, o2_eq_i, o2_eq_s, o2_eq_ns, o2_eq_b, o2_ne_b, o2_idx_t0, o2_idx_t1, o1_len_scr, o1_len_t, o1_len_l, o1_len_s, o1_not_b, o1_tuple_l, o1_list_t, o1_list_l, o1_rev_t, o1_neg_i, o1_int_b, isi_s, isi_i, isi_b, isi_n, isi_t, isi_l, isTy, isNone_n, isNone_b, isNone_i, isNone_s, isNone_t, isNone_l, isBool_b, Bool.not_true, Bool.not_false, eq_self, if_true, if_false, Bool.false_eq_true, reduceIte, beq_self_eq_true] <;> rfl⟩
    have nf : noDicts ((ds.filter fun d => !isName d).map id) = true := by
      rw [List.map_id]
      exact noDicts_of fun d hd => noDicts_mem nds (List.mem_filter.mp hd).1
    have em : ((ds.filter fun d => !isName d).map id).isEmpty = ds.all isName := by rw [List.map_id]; exact filter_empty _ _
    have hn := ne_nil_l _ nf
    rw [em] at hn
    have hlt : evalE (callF defs (n + 1)) (.o2 .lt (.o1 .len (.var 0)) (.var 1)) [some (.tuple ds), some (.int k), none] = .ok (.bool (!decide (k ≤ ds.length))) := by
      simp only [evalSs, evalS, evalE, evalEs, evalIT, Res.bind_ok, Res.bind_bad, Res.bind_exc, Res.tame_ok, Fl.go_next, Fl.go_ret, Fl.fin_next, Fl.fin_ret, slot_some, List.getElem?_cons_zero, List.getElem?_cons_succ, List.set_cons_zero, List.set_cons_succ, put_nm, put_tu, puts_nil, puts_cons, chainK_t, chainK_f, truth_bool, truth_none, truth_int, truth_list, truth_tuple, truth_str, o2_add_i, o2_sub_i, o2_lt_i, o2_le_i, o2_gt_i, o2_ge_i, o2_is_n, o2_is_b, o2_isnot_n, o2_isnot_b, o2_eq_i, o2_eq_s, o2_eq_ns, o2_eq_b, o2_ne_b, o2_idx_t0, o2_idx_t1, o1_len_scr, o1_len_t, o1_len_l, o1_len_s, o1_not_b, o1_tuple_l, o1_list_t, o1_list_l, o1_rev_t, o1_neg_i, o1_int_b, isi_s, isi_i, isi_b, isi_n, isi_t, isi_l, isTy, isNone_n, isNone_b, isNone_i, isNone_s, isNone_t, isNone_l, isBool_b, Bool.not_true, Bool.not_false, eq_self, if_true, if_false, Bool.false_eq_true, reduceIte, beq_self_eq_true]
      congr 2
      by_cases q : k ≤ ds.length
      · rw [decide_eq_true q, decide_eq_false (by omega)]; rfl
      · rw [decide_eq_false q, decide_eq_true (by omega)]; rfl
    refine fin_of (seq_if (or_b (x := false) (y := !decide (k ≤ ds.length) || !ds.all isName) (by simp only [evalSs, evalS, evalE, evalEs, evalIT, Res.bind_ok, Res.bind_bad, Res.bind_exc, Res.tame_ok, Fl.go_next, Fl.go_ret, Fl.fin_next, Fl.fin_ret, slot_some, List.getElem?_cons_zero, List.getElem?_cons_succ, List.set_cons_zero, List.set_cons_succ, put_nm, put_tu, puts_nil, puts_cons, chainK_t, chainK_f, truth_bool, truth_none, truth_int, truth_list, truth_tuple, truth_str, o2_add_i, o2_sub_i, o2_lt_i, o2_le_i, o2_gt_i, o2_ge_i, o2_is_n, o2_is_b, o2_isnot_n, o2_isnot_b, o2_eq_i, o2_eq_s, o2_eq_ns, o2_eq_b, o2_ne_b, o2_idx_t0, o2_idx_t1, o1_len_scr, o1_len_t, o1_len_l, o1_len_s, o1_not_b, o1_tuple_l, o1_list_t, o1_list_l, o1_rev_t, o1_neg_i, o1_int_b, isi_s, isi_i, isi_b, isi_n, isi_t, isi_l, isTy, isNone_n, isNone_b, isNone_i, isNone_s, isNone_t, isNone_l, isBool_b, Bool.not_true, Bool.not_false, eq_self, if_true, if_false, Bool.false_eq_true, reduceIte, beq_self_eq_true]) fun _ => or_b hlt fun _ => by simp only [evalSs, evalS, evalE, evalEs, evalIT, Res.bind_ok, Res.bind_bad, Res.bind_exc, Res.tame_ok, Fl.go_next, Fl.go_ret, Fl.fin_next, Fl.fin_ret, slot_some, List.getElem?_cons_zero, List.getElem?_cons_succ, List.set_cons_zero, List.set_cons_succ, put_nm, put_tu, puts_nil, puts_cons, chainK_t, chainK_f, truth_bool, truth_none, truth_int, truth_list, truth_tuple, truth_str, o2_add_i, o2_sub_i, o2_lt_i, o2_le_i, o2_gt_i, o2_ge_i, o2_is_n, o2_is_b, o2_isnot_n, o2_isnot_b, o2_eq_i, o2_eq_s, o2_eq_ns, o2_eq_b, o2_ne_b, o2_idx_t0, o2_idx_t1, o1_len_scr, o1_len_t, o1_len_l, o1_len_s, o1_not_b, o1_tuple_l, o1_list_t, o1_list_l, o1_rev_t, o1_neg_i, o1_int_b, isi_s, isi_i, isi_b, isi_n, isi_t, isi_l, isTy, isNone_n, isNone_b, isNone_i, isNone_s, isNone_t, isNone_l, isBool_b, Bool.not_true, Bool.not_false, eq_self, if_true, if_false, Bool.false_eq_true, reduceIte, beq_self_eq_true, hc, hn]) (fun t => ?_) fun f => ?_)
    · refine ret_b (x := false) (by simp only [evalSs, evalS, evalE, evalEs, evalIT, Res.bind_ok, Res.bind_bad, Res.bind_exc, Res.tame_ok, Fl.go_next, Fl.go_ret, Fl.fin_next, Fl.fin_ret, slot_some, List.getElem?_cons_zero, List.getElem?_cons_succ, List.set_cons_zero, List.set_cons_succ, put_nm, put_tu, puts_nil, puts_cons, chainK_t, chainK_f, truth_bool, truth_none, truth_int, truth_list, truth_tuple, truth_str, o2_add_i, o2_sub_i, o2_lt_i, o2_le_i, o2_gt_i, o2_ge_i, o2_is_n, o2_is_b, o2_isnot_n, o2_isnot_b, o2_eq_i, o2_eq_s, o2_eq_ns, o2_eq_b, o2_ne_b, o2_idx_t0, o2_idx_t1, o1_len_scr, o1_len_t, o1_len_l, o1_len_s, o1_not_b, o1_tuple_l, o1_list_t, o1_list_l, o1_rev_t, o1_neg_i, o1_int_b, isi_s, isi_i, isi_b, isi_n, isi_t, isi_l, isTy, isNone_n, isNone_b, isNone_i, isNone_s, isNone_t, isNone_l, isBool_b, Bool.not_true, Bool.not_false, eq_self, if_true, if_false, Bool.false_eq_true, reduceIte, beq_self_eq_true]) ?_
      simp only [areNames, namesOk]
      cases h1 : decide (k ≤ ds.length) with
      | false => rfl
      | true =>
        rw [h1] at t
        have : ds.all isName = false := by simpa using t
        rw [this]; rfl
    · have f' : (!decide (k ≤ ds.length) || !ds.all isName) = false := by simpa using f
      obtain ⟨f1, f2⟩ := Bool.or_eq_false_iff.mp f'
      have f1 : decide (k ≤ ds.length) = true := by simpa using f1
      have f2 : ds.all isName = true := by simpa using f2
      have e1 : op1 .lenSet (.tuple ds) = .ok (.int (unlike (ds.map strOf)).length) := lenSet_names f2 hl
      refine ret_b (x := (unlike (ds.map strOf)).length == ds.length) (by simp only [evalSs, evalS, evalE, evalEs, evalIT, Res.bind_ok, Res.bind_bad, Res.bind_exc, Res.tame_ok, Fl.go_next, Fl.go_ret, Fl.fin_next, Fl.fin_ret, slot_some, List.getElem?_cons_zero, List.getElem?_cons_succ, List.set_cons_zero, List.set_cons_succ, put_nm, put_tu, puts_nil, puts_cons, chainK_t, chainK_f, truth_bool, truth_none, truth_int, truth_list, truth_tuple, truth_str, o2_add_i, o2_sub_i, o2_lt_i, o2_le_i, o2_gt_i, o2_ge_i, o2_is_n, o2_is_b, o2_isnot_n, o2_isnot_b, o2_eq_i, o2_eq_s, o2_eq_ns, o2_eq_b, o2_ne_b, o2_idx_t0, o2_idx_t1, o1_len_scr, o1_len_t, o1_len_l, o1_len_s, o1_not_b, o1_tuple_l, o1_list_t, o1_list_l, o1_rev_t, o1_neg_i, o1_int_b, isi_s, isi_i, isi_b, isi_n, isi_t, isi_l, isTy, isNone_n, isNone_b, isNone_i, isNone_s, isNone_t, isNone_l, isBool_b, Bool.not_true, Bool.not_false, eq_self, if_true, if_false, Bool.false_eq_true, reduceIte, beq_self_eq_true, e1, nat_beq]) ?_
      simp only [areNames, namesOk, f1, f2, Bool.true_and]
  | dict _ => simp [noDict] at nd
  | _ => simp only [evalSs, evalS, evalE, evalEs, evalIT, Res.bind_ok, Res.bind_bad, Res.bind_exc, Res.tame_ok, Fl.go_next, Fl.go_ret, Fl.fin_next, Fl.fin_ret, slot_some, List.getElem?_cons_zero, List.getElem?_cons_succ, List.set_cons_zero, List.set_cons_succ, put_nm, put_tu, puts_nil, puts_cons, chainK_t, chainK_f, truth_bool, truth_none, truth_int, truth_list, truth_tuple, truth_str, o2_add_i, o2_sub_i, o2_lt_i, o2_le_i, o2_gt_i, o2_ge_i, o2_is_n, o2_is_b, o2_isnot_n, o2_isnot_b, o2_eq_i, o2_eq_s, o2_eq_ns, o2_eq_b, o2_ne_b, o2_idx_t0, o2_idx_t1, o1_len_scr, o1_len_t, o1_len_l, o1_len_s, o1_not_b, o1_tuple_l, o1_list_t, o1_list_l, o1_rev_t, o1_neg_i, o1_int_b, isi_s, isi_i, isi_b, isi_n, isi_t, isi_l, isTy, isNone_n, isNone_b, isNone_i, isNone_s, isNone_t, isNone_l, isBool_b, Bool.not_true, Bool.not_false, eq_self, if_true, if_false, Bool.false_eq_true, reduceIte, beq_self_eq_true, f_law_are_names, areNames]
def pairL (d : D) : Bool := tupN 2 d && isName (at0 d) && isTy (at1 d) .str
def pairsL : D → Bool
  | .tuple ds => !ds.isEmpty && ds.all pairL && ((unlike ((ds.map at0).map strOf)).length == ds.length)
  | _ => false
theorem law_pairs_eq (n : Nat) (d : D) (hf : fine 1000 d = true) : callF defs (n + 2) F.law_are_pairs [d] = .ok (.bool (pairsL d)) := by
  rw [u_law_are_pairs]
  have nd := fine_noDict d hf
  cases d with
  | tuple ds =>
    have hl := (fine_tuple.mp hf).1
    have nds : noDicts ds = true := by simpa [noDict] using nd
    have loop := forD_find (f := fun d e => ((Tg.nm 1).put d e).bind fun e' => evalSs (callF defs (n + 1)) b_law_are_pairs_0 e') (P := fun env => ∃ o1 : Option D, env = [some (.tuple ds), o1]) (p := pairL) (r := .bool false) (ds := ds) (env := [some (.tuple ds), none]) (fun d hd env pe => by
      obtain ⟨o1, rfl⟩ := pe
      have fd := (fine_tuple.mp hf).2 d hd
      have body : evalSs (callF defs (n + 1)) b_law_are_pairs_0 [some (.tuple ds), some d] = if pairL d then .ok (.next [some (.tuple ds), some d]) else .ok (.ret (.bool false)) := by
        unfold b_law_are_pairs_0
        cases d with
        | tuple es =>
          by_cases q : es.length = 2
          · obtain ⟨a, t, rfl⟩ := (len2 es).mp q
            have fa := fine_noDict a ((fine_tuple.mp fd).2 a (by simp))
            have ft := fine_noDict t ((fine_tuple.mp fd).2 t (by simp))
            have i1 := law_name_eq n a fa
            have c0 : ((([a, t] : List D).length : Int) == 2) = true := rfl
            have pe : pairL (.tuple [a, t]) = (isName a && isTy t .str) := by
              show (decide (([a, t] : List D).length = 2) && isName a && isTy t .str) = _
              rw [decide_eq_true q, Bool.true_and]
            rw [pe]
            cases q1 : isName a with
            | false => rw [q1] at i1; simp only [evalSs, evalS, evalE, evalEs, evalIT, Res.bind_ok, Res.bind_bad, Res.bind_exc, Res.tame_ok, Fl.go_next, Fl.go_ret, Fl.fin_next, Fl.fin_ret, slot_some, List.getElem?_cons_zero, List.getElem?_cons_succ, List.set_cons_zero, List.set_cons_succ, put_nm, put_tu, puts_nil, puts_cons, chainK_t, chainK_f, truth_bool, truth_none, truth_int, truth_list, truth_tuple, truth_str, o2_add_i, o2_sub_i, o2_lt_i, o2_le_i, o2_gt_i, o2_ge_i, o2_is_n, o2_is_b, o2_isnot_n, o2_isnot_b, o2_eq_i, o2_eq_s, o2_eq_ns, o2_eq_b, o2_ne_b, o2_idx_t0, o2_idx_t1, o1_len_scr, o1_len_t, o1_len_l, o1_len_s, o1_not_b, o1_tuple_l, o1_list_t, o1_list_l, o1_rev_t, o1_neg_i, o1_int_b, isi_s, isi_i, isi_b, isi_n, isi_t, isi_l, isTy, isNone_n, isNone_b, isNone_i, isNone_s, isNone_t, isNone_l, isBool_b, Bool.not_true, Bool.not_false, eq_self, if_true, if_false, Bool.false_eq_true, reduceIte, beq_self_eq_true, o2_ne_i, c0, i1, Bool.false_and]
            | true =>
              rw [q1] at i1
              cases t with
              | dict _ => simp [noDict] at ft
              | _ => simp only [evalSs, evalS, evalE, evalEs, evalIT, Res.bind_ok, Res.bind_bad, Res.bind_exc, Res.tame_ok, Fl.go_next, Fl.go_ret, Fl.fin_next, Fl.fin_ret, slot_some, List.getElem?_cons_zero, List.getElem?_cons_succ, List.set_cons_zero, List.set_cons_succ, put_nm, put_tu, puts_nil, puts_cons, chainK_t, chainK_f, truth_bool, truth_none, truth_int, truth_list, truth_tuple, truth_str, o2_add_i, o2_sub_i, o2_lt_i, o2_le_i, o2_gt_i, o2_ge_i, o2_is_n, o2_is_b, o2_isnot_n, o2_isnot_b, o2_eq_i, o2_eq_s, o2_eq_ns, o2_eq_b, o2_ne_b, o2_idx_t0, o2_idx_t1, o1_len_scr, o1_len_t, o1_len_l, o1_len_s, o1_not_b, o1_tuple_l, o1_list_t, o1_list_l, o1_rev_t, o1_neg_i, o1_int_b, isi_s, isi_i, isi_b, isi_n, isi_t, isi_l, isTy, isNone_n, isNone_b, isNone_i, isNone_s, isNone_t, isNone_l, isBool_b, Bool.not_true, Bool.not_false, eq_self, if_true, if_false, Bool.false_eq_true, reduceIte, beq_self_eq_true, o2_ne_i, c0, i1, Bool.true_and]
          · have c0 : ((es.length : Int) == 2) = false := beq_eq_false_iff_ne.mpr (by omega)
            have : pairL (.tuple es) = false := by
              show (decide (es.length = 2) && _ && _) = false
              rw [decide_eq_false q]; rfl
            simp only [evalSs, evalS, evalE, evalEs, evalIT, Res.bind_ok, Res.bind_bad, Res.bind_exc, Res.tame_ok, Fl.go_next, Fl.go_ret, Fl.fin_next, Fl.fin_ret, slot_some, List.getElem?_cons_zero, List.getElem?_cons_succ, List.set_cons_zero, List.set_cons_succ, put_nm, put_tu, puts_nil, puts_cons, chainK_t, chainK_f, truth_bool, truth_none, truth_int, truth_list, truth_tuple, truth_str, o2_add_i, o2_sub_i, o2_lt_i, o2_le_i, o2_gt_i, o2_ge_i, o2_is_n, o2_is_b, o2_isnot_n, o2_isnot_b, o2_eq_i, o2_eq_s, o2_eq_ns, o2_eq_b, o2_ne_b, o2_idx_t0, o2_idx_t1, o1_len_scr, o1_len_t, o1_len_l, o1_len_s, o1_not_b, o1_tuple_l, o1_list_t, o1_list_l, o1_rev_t, o1_neg_i, o1_int_b, isi_s, isi_i, isi_b, isi_n, isi_t, isi_l, isTy, isNone_n, isNone_b, isNone_i, isNone_s, isNone_t, isNone_l, isBool_b, Bool.not_true, Bool.not_false, eq_self, if_true, if_false, Bool.false_eq_true, reduceIte, beq_self_eq_true, o2_ne_i, c0, this]
        | dict _ => simp [fine] at fd
        | _ => simp only [evalSs, evalS, evalE, evalEs, evalIT, Res.bind_ok, Res.bind_bad, Res.bind_exc, Res.tame_ok, Fl.go_next, Fl.go_ret, Fl.fin_next, Fl.fin_ret, slot_some, List.getElem?_cons_zero, List.getElem?_cons_succ, List.set_cons_zero, List.set_cons_succ, put_nm, put_tu, puts_nil, puts_cons, chainK_t, chainK_f, truth_bool, truth_none, truth_int, truth_list, truth_tuple, truth_str, o2_add_i, o2_sub_i, o2_lt_i, o2_le_i, o2_gt_i, o2_ge_i, o2_is_n, o2_is_b, o2_isnot_n, o2_isnot_b, o2_eq_i, o2_eq_s, o2_eq_ns, o2_eq_b, o2_ne_b, o2_idx_t0, o2_idx_t1, o1_len_scr, o1_len_t, o1_len_l, o1_len_s, o1_not_b, o1_tuple_l, o1_list_t, o1_list_l, o1_rev_t, o1_neg_i, o1_int_b, isi_s, isi_i, isi_b, isi_n, isi_t, isi_l, isTy, isNone_n, isNone_b, isNone_i, isNone_s, isNone_t, isNone_l, isBool_b, Bool.not_true, Bool.not_false, eq_self, if_true, if_false, Bool.false_eq_true, reduceIte, beq_self_eq_true, pairL, tupN, Bool.false_and]
      simp only [put_nm, bind_ok, List.set_cons_succ, List.set_cons_zero]
      rw [body]
      exact ⟨fun hp => ⟨_, by rw [if_pos hp], _, rfl⟩, fun hp => by rw [hp]; rfl⟩) ⟨none, rfl⟩
    have he := eq_nil_t ds nds
    cases qe : ds.isEmpty with
    | true =>
      rw [qe] at he
      refine fin_of (seq_if_t (d := .bool true) (by simp only [evalSs, evalS, evalE, evalEs, evalIT, Res.bind_ok, Res.bind_bad, Res.bind_exc, Res.tame_ok, Fl.go_next, Fl.go_ret, Fl.fin_next, Fl.fin_ret, slot_some, List.getElem?_cons_zero, List.getElem?_cons_succ, List.set_cons_zero, List.set_cons_succ, put_nm, put_tu, puts_nil, puts_cons, chainK_t, chainK_f, truth_bool, truth_none, truth_int, truth_list, truth_tuple, truth_str, o2_add_i, o2_sub_i, o2_lt_i, o2_le_i, o2_gt_i, o2_ge_i, o2_is_n, o2_is_b, o2_isnot_n, o2_isnot_b, o2_eq_i, o2_eq_s, o2_eq_ns, o2_eq_b, o2_ne_b, o2_idx_t0, o2_idx_t1, o1_len_scr, o1_len_t, o1_len_l, o1_len_s, o1_not_b, o1_tuple_l, o1_list_t, o1_list_l, o1_rev_t, o1_neg_i, o1_int_b, isi_s, isi_i, isi_b, isi_n, isi_t, isi_l, isTy, isNone_n, isNone_b, isNone_i, isNone_s, isNone_t, isNone_l, isBool_b, Bool.not_true, Bool.not_false, eq_self, if_true, if_false, Bool.false_eq_true, reduceIte, beq_self_eq_true, he]) rfl (seq_ret ?_))
      simp only [pairsL, qe, Bool.not_true, Bool.false_and]
      simp only [evalSs, evalS, evalE, evalEs, evalIT, Res.bind_ok, Res.bind_bad, Res.bind_exc, Res.tame_ok, Fl.go_next, Fl.go_ret, Fl.fin_next, Fl.fin_ret, slot_some, List.getElem?_cons_zero, List.getElem?_cons_succ, List.set_cons_zero, List.set_cons_succ, put_nm, put_tu, puts_nil, puts_cons, chainK_t, chainK_f, truth_bool, truth_none, truth_int, truth_list, truth_tuple, truth_str, o2_add_i, o2_sub_i, o2_lt_i, o2_le_i, o2_gt_i, o2_ge_i, o2_is_n, o2_is_b, o2_isnot_n, o2_isnot_b, o2_eq_i, o2_eq_s, o2_eq_ns, o2_eq_b, o2_ne_b, o2_idx_t0, o2_idx_t1, o1_len_scr, o1_len_t, o1_len_l, o1_len_s, o1_not_b, o1_tuple_l, o1_list_t, o1_list_l, o1_rev_t, o1_neg_i, o1_int_b, isi_s, isi_i, isi_b, isi_n, isi_t, isi_l, isTy, isNone_n, isNone_b, isNone_i, isNone_s, isNone_t, isNone_l, isBool_b, Bool.not_true, Bool.not_false, eq_self, if_true, if_false, Bool.false_eq_true, reduceIte, beq_self_eq_true]
    | false =>
      rw [qe] at he
      refine fin_of ((seq_if_f (d := .bool false) (by simp only [evalSs, evalS, evalE, evalEs, evalIT, Res.bind_ok, Res.bind_bad, Res.bind_exc, Res.tame_ok, Fl.go_next, Fl.go_ret, Fl.fin_next, Fl.fin_ret, slot_some, List.getElem?_cons_zero, List.getElem?_cons_succ, List.set_cons_zero, List.set_cons_succ, put_nm, put_tu, puts_nil, puts_cons, chainK_t, chainK_f, truth_bool, truth_none, truth_int, truth_list, truth_tuple, truth_str, o2_add_i, o2_sub_i, o2_lt_i, o2_le_i, o2_gt_i, o2_ge_i, o2_is_n, o2_is_b, o2_isnot_n, o2_isnot_b, o2_eq_i, o2_eq_s, o2_eq_ns, o2_eq_b, o2_ne_b, o2_idx_t0, o2_idx_t1, o1_len_scr, o1_len_t, o1_len_l, o1_len_s, o1_not_b, o1_tuple_l, o1_list_t, o1_list_l, o1_rev_t, o1_neg_i, o1_int_b, isi_s, isi_i, isi_b, isi_n, isi_t, isi_l, isTy, isNone_n, isNone_b, isNone_i, isNone_s, isNone_t, isNone_l, isBool_b, Bool.not_true, Bool.not_false, eq_self, if_true, if_false, Bool.false_eq_true, reduceIte, beq_self_eq_true, he]) rfl rfl).trans ?_)
      cases qa : ds.all pairL with
      | false =>
        simp only [pairsL, qa, Bool.and_false, Bool.false_and]
        exact seq_for_ret (by simp only [evalSs, evalS, evalE, evalEs, evalIT, Res.bind_ok, Res.bind_bad, Res.bind_exc, Res.tame_ok, Fl.go_next, Fl.go_ret, Fl.fin_next, Fl.fin_ret, slot_some, List.getElem?_cons_zero, List.getElem?_cons_succ, List.set_cons_zero, List.set_cons_succ, put_nm, put_tu, puts_nil, puts_cons, chainK_t, chainK_f, truth_bool, truth_none, truth_int, truth_list, truth_tuple, truth_str, o2_add_i, o2_sub_i, o2_lt_i, o2_le_i, o2_gt_i, o2_ge_i, o2_is_n, o2_is_b, o2_isnot_n, o2_isnot_b, o2_eq_i, o2_eq_s, o2_eq_ns, o2_eq_b, o2_ne_b, o2_idx_t0, o2_idx_t1, o1_len_scr, o1_len_t, o1_len_l, o1_len_s, o1_not_b, o1_tuple_l, o1_list_t, o1_list_l, o1_rev_t, o1_neg_i, o1_int_b, isi_s, isi_i, isi_b, isi_n, isi_t, isi_l, isTy, isNone_n, isNone_b, isNone_i, isNone_s, isNone_t, isNone_l, isBool_b, Bool.not_true, Bool.not_false, eq_self, if_true, if_false, Bool.false_eq_true, reduceIte, beq_self_eq_true, itemsOf] <;> rfl) (loop.2 qa)
      | true =>
        obtain ⟨e, l1, o1, rfl⟩ := loop.1 qa
        have hc : evalE (callF defs (n + 1)) c_law_are_pairs_2 [some (.tuple ds), o1] = .ok (.list (ds.map at0)) := by
          unfold c_law_are_pairs_2
          refine comp_nm (by simp only [evalSs, evalS, evalE, evalEs, evalIT, Res.bind_ok, Res.bind_bad, Res.bind_exc, Res.tame_ok, Fl.go_next, Fl.go_ret, Fl.fin_next, Fl.fin_ret, slot_some, List.getElem?_cons_zero, List.getElem?_cons_succ, List.set_cons_zero, List.set_cons_succ, put_nm, put_tu, puts_nil, puts_cons, chainK_t, chainK_f, truth_bool, truth_none, truth_int, truth_list, truth_tuple, truth_str, o2_add_i, o2_sub_i, o2_lt_i, o2_le_i, o2_gt_i, o2_ge_i, o2_is_n, o2_is_b, o2_isnot_n, o2_isnot_b, o2_eq_i, o2_eq_s, o2_eq_ns, o2_eq_b, o2_ne_b, o2_idx_t0, o2_idx_t1, o1_len_scr, o1_len_t, o1_len_l, o1_len_s, o1_not_b, o1_tuple_l, o1_list_t, o1_list_l, o1_rev_t, o1_neg_i, o1_int_b, isi_s, isi_i, isi_b, isi_n, isi_t, isi_l, isTy, isNone_n, isNone_b, isNone_i, isNone_s, isNone_t, isNone_l, isBool_b, Bool.not_true, Bool.not_false, eq_self, if_true, if_false, Bool.false_eq_true, reduceIte, beq_self_eq_true, itemsOf]) fun d hd => ?_
          have := List.all_eq_true.mp qa d hd
          unfold pairL at this
          simp only [Bool.and_eq_true] at this
          obtain ⟨a, b, rfl⟩ := tup2_shape this.1.1
          simp only [evalSs, evalS, evalE, evalEs, evalIT, Res.bind_ok, Res.bind_bad, Res.bind_exc, Res.tame_ok, Fl.go_next, Fl.go_ret, Fl.fin_next, Fl.fin_ret, slot_some, List.getElem?_cons_zero, List.getElem?_cons_succ, List.set_cons_zero, List.set_cons_succ, put_nm, put_tu, puts_nil, puts_cons, chainK_t, chainK_f, truth_bool, truth_none, truth_int, truth_list, truth_tuple, truth_str, o2_add_i, o2_sub_i, o2_lt_i, o2_le_i, o2_gt_i, o2_ge_i, o2_is_n, o2_is_b, o2_isnot_n, o2_isnot_b, o2_eq_i, o2_eq_s, o2_eq_ns, o2_eq_b, o2_ne_b, o2_idx_t0, o2_idx_t1, o1_len_scr, o1_len_t, o1_len_l, o1_len_s, o1_not_b, o1_tuple_l, o1_list_t, o1_list_l, o1_rev_t, o1_neg_i, o1_int_b, isi_s, isi_i, isi_b, isi_n, isi_t, isi_l, isTy, isNone_n, isNone_b, isNone_i, isNone_s, isNone_t, isNone_l, isBool_b, Bool.not_true, Bool.not_false, eq_self, if_true, if_false, Bool.false_eq_true, reduceIte, beq_self_eq_true, at0]
        have hall : (ds.map at0).all isName = true := by
          rw [List.all_map]
          exact List.all_eq_true.mpr fun d hd => by
            have := List.all_eq_true.mp qa d hd
            unfold pairL at this
            simp only [Bool.and_eq_true] at this
            exact this.1.2
        have e1 : op1 .lenSet (.list (ds.map at0)) = .ok (.int (unlike ((ds.map at0).map strOf)).length) := lenSet_names hall (by rw [List.length_map]; exact hl)
        refine (seq_for (by simp only [evalSs, evalS, evalE, evalEs, evalIT, Res.bind_ok, Res.bind_bad, Res.bind_exc, Res.tame_ok, Fl.go_next, Fl.go_ret, Fl.fin_next, Fl.fin_ret, slot_some, List.getElem?_cons_zero, List.getElem?_cons_succ, List.set_cons_zero, List.set_cons_succ, put_nm, put_tu, puts_nil, puts_cons, chainK_t, chainK_f, truth_bool, truth_none, truth_int, truth_list, truth_tuple, truth_str, o2_add_i, o2_sub_i, o2_lt_i, o2_le_i, o2_gt_i, o2_ge_i, o2_is_n, o2_is_b, o2_isnot_n, o2_isnot_b, o2_eq_i, o2_eq_s, o2_eq_ns, o2_eq_b, o2_ne_b, o2_idx_t0, o2_idx_t1, o1_len_scr, o1_len_t, o1_len_l, o1_len_s, o1_not_b, o1_tuple_l, o1_list_t, o1_list_l, o1_rev_t, o1_neg_i, o1_int_b, isi_s, isi_i, isi_b, isi_n, isi_t, isi_l, isTy, isNone_n, isNone_b, isNone_i, isNone_s, isNone_t, isNone_l, isBool_b, Bool.not_true, Bool.not_false, eq_self, if_true, if_false, Bool.false_eq_true, reduceIte, beq_self_eq_true, itemsOf] <;> rfl) l1).trans (ret_b (x := (unlike ((ds.map at0).map strOf)).length == ds.length) (by simp only [evalSs, evalS, evalE, evalEs, evalIT, Res.bind_ok, Res.bind_bad, Res.bind_exc, Res.tame_ok, Fl.go_next, Fl.go_ret, Fl.fin_next, Fl.fin_ret, slot_some, List.getElem?_cons_zero, List.getElem?_cons_succ, List.set_cons_zero, List.set_cons_succ, put_nm, put_tu, puts_nil, puts_cons, chainK_t, chainK_f, truth_bool, truth_none, truth_int, truth_list, truth_tuple, truth_str, o2_add_i, o2_sub_i, o2_lt_i, o2_le_i, o2_gt_i, o2_ge_i, o2_is_n, o2_is_b, o2_isnot_n, o2_isnot_b, o2_eq_i, o2_eq_s, o2_eq_ns, o2_eq_b, o2_ne_b, o2_idx_t0, o2_idx_t1, o1_len_scr, o1_len_t, o1_len_l, o1_len_s, o1_not_b, o1_tuple_l, o1_list_t, o1_list_l, o1_rev_t, o1_neg_i, o1_int_b, isi_s, isi_i, isi_b, isi_n, isi_t, isi_l, isTy, isNone_n, isNone_b, isNone_i, isNone_s, isNone_t, isNone_l, isBool_b, Bool.not_true, Bool.not_false, eq_self, if_true, if_false, Bool.false_eq_true, reduceIte, beq_self_eq_true, hc, e1, nat_beq]) ?_)
        simp only [pairsL, qa, qe, Bool.not_false, Bool.true_and]
  | dict _ => simp [noDict] at nd
  | _ => simp only [evalSs, evalS, evalE, evalEs, evalIT, Res.bind_ok, Res.bind_bad, Res.bind_exc, Res.tame_ok, Fl.go_next, Fl.go_ret, Fl.fin_next, Fl.fin_ret, slot_some, List.getElem?_cons_zero, List.getElem?_cons_succ, List.set_cons_zero, List.set_cons_succ, put_nm, put_tu, puts_nil, puts_cons, chainK_t, chainK_f, truth_bool, truth_none, truth_int, truth_list, truth_tuple, truth_str, o2_add_i, o2_sub_i, o2_lt_i, o2_le_i, o2_gt_i, o2_ge_i, o2_is_n, o2_is_b, o2_isnot_n, o2_isnot_b, o2_eq_i, o2_eq_s, o2_eq_ns, o2_eq_b, o2_ne_b, o2_idx_t0, o2_idx_t1, o1_len_scr, o1_len_t, o1_len_l, o1_len_s, o1_not_b, o1_tuple_l, o1_list_t, o1_list_l, o1_rev_t, o1_neg_i, o1_int_b, isi_s, isi_i, isi_b, isi_n, isi_t, isi_l, isTy, isNone_n, isNone_b, isNone_i, isNone_s, isNone_t, isNone_l, isBool_b, Bool.not_true, Bool.not_false, eq_self, if_true, if_false, Bool.false_eq_true, reduceIte, beq_self_eq_true, f_law_are_pairs, pairsL]
theorem law_heap_eq (n : Nat) (d : D) (hf : fine 1000 d = true) : callF defs (n + 2) F.law_is_heap [d] = .ok (.bool (heapOk d)) := by
  rw [u_law_is_heap]
  have nd := fine_noDict d hf
  cases d with
  | tuple es =>
    by_cases q : es.length = 3
    · match es, q with
      | [a, b, c], _ =>
        have fa := fine_noDict a ((fine_tuple.mp hf).2 a (by simp))
        have fb := fine_noDict b ((fine_tuple.mp hf).2 b (by simp))
        have fc := fine_noDict c ((fine_tuple.mp hf).2 c (by simp))
        have i1 := law_name_eq n a fa
        have i3 := law_name_eq n c fc
        have hv : evalE (callF defs (n + 1)) (.var 0) [some (.tuple [a, b, c])] = .ok (.tuple [a, b, c]) := by simp only [evalSs, evalS, evalE, evalEs, evalIT, Res.bind_ok, Res.bind_bad, Res.bind_exc, Res.tame_ok, Fl.go_next, Fl.go_ret, Fl.fin_next, Fl.fin_ret, slot_some, List.getElem?_cons_zero, List.getElem?_cons_succ, List.set_cons_zero, List.set_cons_succ, put_nm, put_tu, puts_nil, puts_cons, chainK_t, chainK_f, truth_bool, truth_none, truth_int, truth_list, truth_tuple, truth_str, o2_add_i, o2_sub_i, o2_lt_i, o2_le_i, o2_gt_i, o2_ge_i, o2_is_n, o2_is_b, o2_isnot_n, o2_isnot_b, o2_eq_i, o2_eq_s, o2_eq_ns, o2_eq_b, o2_ne_b, o2_idx_t0, o2_idx_t1, o1_len_scr, o1_len_t, o1_len_l, o1_len_s, o1_not_b, o1_tuple_l, o1_list_t, o1_list_l, o1_rev_t, o1_neg_i, o1_int_b, isi_s, isi_i, isi_b, isi_n, isi_t, isi_l, isTy, isNone_n, isNone_b, isNone_i, isNone_s, isNone_t, isNone_l, isBool_b, Bool.not_true, Bool.not_false, eq_self, if_true, if_false, Bool.false_eq_true, reduceIte, beq_self_eq_true]
        have l3 : evalE (callF defs (n + 1)) (.o2 .ne (.o1 .len (.var 0)) (.int 3)) [some (.tuple [a, b, c])] = .ok (.bool false) := len_isnt hv 3
        have b0 : evalE (callF defs (n + 1)) (.o2 .idx (.var 0) (.int 0)) [some (.tuple [a, b, c])] = .ok a := idx_at (i := 0) hv rfl
        have b1 : evalE (callF defs (n + 1)) (.o2 .idx (.var 0) (.int 1)) [some (.tuple [a, b, c])] = .ok b := idx_at (i := 1) hv rfl
        have b2 : evalE (callF defs (n + 1)) (.o2 .idx (.var 0) (.int 2)) [some (.tuple [a, b, c])] = .ok c := idx_at (i := 2) hv rfl
        have g1 := or_b (x := false) (y := !isName a || !isTy b .str) (not_b (isi_at hv .tuple nd)) fun _ => or_b (x := false) (y := !isName a || !isTy b .str) l3 fun _ => or_b (not_b (call1 b0 i1)) fun _ => not_b (isi_at b1 .str fb)
        refine fin_of (seq_if g1 (fun t => ret_b (x := false) (by simp only [evalSs, evalS, evalE, evalEs, evalIT, Res.bind_ok, Res.bind_bad, Res.bind_exc, Res.tame_ok, Fl.go_next, Fl.go_ret, Fl.fin_next, Fl.fin_ret, slot_some, List.getElem?_cons_zero, List.getElem?_cons_succ, List.set_cons_zero, List.set_cons_succ, put_nm, put_tu, puts_nil, puts_cons, chainK_t, chainK_f, truth_bool, truth_none, truth_int, truth_list, truth_tuple, truth_str, o2_add_i, o2_sub_i, o2_lt_i, o2_le_i, o2_gt_i, o2_ge_i, o2_is_n, o2_is_b, o2_isnot_n, o2_isnot_b, o2_eq_i, o2_eq_s, o2_eq_ns, o2_eq_b, o2_ne_b, o2_idx_t0, o2_idx_t1, o1_len_scr, o1_len_t, o1_len_l, o1_len_s, o1_not_b, o1_tuple_l, o1_list_t, o1_list_l, o1_rev_t, o1_neg_i, o1_int_b, isi_s, isi_i, isi_b, isi_n, isi_t, isi_l, isTy, isNone_n, isNone_b, isNone_i, isNone_s, isNone_t, isNone_l, isBool_b, Bool.not_true, Bool.not_false, eq_self, if_true, if_false, Bool.false_eq_true, reduceIte, beq_self_eq_true]) ?_) fun f => ?_)
        · have t : (!isName a || !isTy b .str) = true := t
          cases b with
          | str w =>
            have : isName a = false := by simpa [isTy] using t
            simp only [heapOk, this, Bool.false_and]
          | _ => rfl
        · have f : (!isName a || !isTy b .str) = false := f
          obtain ⟨f1, f2⟩ := Bool.or_eq_false_iff.mp f
          have f1 : isName a = true := by simpa using f1
          cases b with
          | str w =>
            refine seq_if (o2_is_s b1) (fun t => ret_b (x := isNone c) (by simp only [evalE, hv, bind_ok] at b2 ⊢; rw [b2]; rfl) ?_) fun f3 => ?_
            · simp only [heapOk, heapW, f1, t, if_true, Bool.true_and]
            · refine ret_b (and_b (x := decide (w ∈ whole5)) (y := isName c) (in_tup b1 (ws := whole5) (by simp only [evalSs, evalS, evalE, evalEs, evalIT, Res.bind_ok, Res.bind_bad, Res.bind_exc, Res.tame_ok, Fl.go_next, Fl.go_ret, Fl.fin_next, Fl.fin_ret, slot_some, List.getElem?_cons_zero, List.getElem?_cons_succ, List.set_cons_zero, List.set_cons_succ, put_nm, put_tu, puts_nil, puts_cons, chainK_t, chainK_f, truth_bool, truth_none, truth_int, truth_list, truth_tuple, truth_str, o2_add_i, o2_sub_i, o2_lt_i, o2_le_i, o2_gt_i, o2_ge_i, o2_is_n, o2_is_b, o2_isnot_n, o2_isnot_b, o2_eq_i, o2_eq_s, o2_eq_ns, o2_eq_b, o2_ne_b, o2_idx_t0, o2_idx_t1, o1_len_scr, o1_len_t, o1_len_l, o1_len_s, o1_not_b, o1_tuple_l, o1_list_t, o1_list_l, o1_rev_t, o1_neg_i, o1_int_b, isi_s, isi_i, isi_b, isi_n, isi_t, isi_l, isTy, isNone_n, isNone_b, isNone_i, isNone_s, isNone_t, isNone_l, isBool_b, Bool.not_true, Bool.not_false, eq_self, if_true, if_false, Bool.false_eq_true, reduceIte, beq_self_eq_true] <;> rfl) (by simp [noDict])) fun _ => call1 b2 i3) ?_
              simp only [heapOk, heapW, f1, f3, if_false, Bool.false_eq_true, Bool.true_and]
          | _ => simp [isTy] at f2
    · have c0 : ((es.length : Int) == 3) = false := beq_eq_false_iff_ne.mpr (by omega)
      have : heapOk (.tuple es) = false := by
        cases h : heapOk (.tuple es) with
        | false => rfl
        | true => exact absurd (of_decide_eq_true (heap_tup h)) q
      simp only [evalSs, evalS, evalE, evalEs, evalIT, Res.bind_ok, Res.bind_bad, Res.bind_exc, Res.tame_ok, Fl.go_next, Fl.go_ret, Fl.fin_next, Fl.fin_ret, slot_some, List.getElem?_cons_zero, List.getElem?_cons_succ, List.set_cons_zero, List.set_cons_succ, put_nm, put_tu, puts_nil, puts_cons, chainK_t, chainK_f, truth_bool, truth_none, truth_int, truth_list, truth_tuple, truth_str, o2_add_i, o2_sub_i, o2_lt_i, o2_le_i, o2_gt_i, o2_ge_i, o2_is_n, o2_is_b, o2_isnot_n, o2_isnot_b, o2_eq_i, o2_eq_s, o2_eq_ns, o2_eq_b, o2_ne_b, o2_idx_t0, o2_idx_t1, o1_len_scr, o1_len_t, o1_len_l, o1_len_s, o1_not_b, o1_tuple_l, o1_list_t, o1_list_l, o1_rev_t, o1_neg_i, o1_int_b, isi_s, isi_i, isi_b, isi_n, isi_t, isi_l, isTy, isNone_n, isNone_b, isNone_i, isNone_s, isNone_t, isNone_l, isBool_b, Bool.not_true, Bool.not_false, eq_self, if_true, if_false, Bool.false_eq_true, reduceIte, beq_self_eq_true, f_law_is_heap, o2_ne_i, c0, this]
  | dict _ => simp [noDict] at nd
  | _ => simp only [evalSs, evalS, evalE, evalEs, evalIT, Res.bind_ok, Res.bind_bad, Res.bind_exc, Res.tame_ok, Fl.go_next, Fl.go_ret, Fl.fin_next, Fl.fin_ret, slot_some, List.getElem?_cons_zero, List.getElem?_cons_succ, List.set_cons_zero, List.set_cons_succ, put_nm, put_tu, puts_nil, puts_cons, chainK_t, chainK_f, truth_bool, truth_none, truth_int, truth_list, truth_tuple, truth_str, o2_add_i, o2_sub_i, o2_lt_i, o2_le_i, o2_gt_i, o2_ge_i, o2_is_n, o2_is_b, o2_isnot_n, o2_isnot_b, o2_eq_i, o2_eq_s, o2_eq_ns, o2_eq_b, o2_ne_b, o2_idx_t0, o2_idx_t1, o1_len_scr, o1_len_t, o1_len_l, o1_len_s, o1_not_b, o1_tuple_l, o1_list_t, o1_list_l, o1_rev_t, o1_neg_i, o1_int_b, isi_s, isi_i, isi_b, isi_n, isi_t, isi_l, isTy, isNone_n, isNone_b, isNone_i, isNone_s, isNone_t, isNone_l, isBool_b, Bool.not_true, Bool.not_false, eq_self, if_true, if_false, Bool.false_eq_true, reduceIte, beq_self_eq_true, f_law_is_heap, heapOk]
/-- pairs of both looks -/
theorem pairs_two (ds : List D) : pairsOk (.tuple ds) = (pairsL (.tuple ds) && namesOk (ds.map at1)) := by
  have hp : ds.all pairL = (ds.all (tupN 2) && (ds.map at0).all isName && ds.all fun d => isTy (at1 d) .str) := by
    rw [List.all_map]
    induction ds with
    | nil => rfl
    | cons d ds ih =>
      simp only [List.all_cons, ih, pairL, Function.comp]
      cases tupN 2 d <;> cases isName (at0 d) <;> cases isTy (at1 d) .str <;> cases ds.all (tupN 2) <;> cases ds.all (isName ∘ at0) <;> simp [Function.comp_def]
  simp only [pairsOk, pairsL, hp, namesOk, List.length_map]
  cases h : (ds.map at1).all isName with
  | false => simp
  | true =>
    have : (ds.all fun d => isTy (at1 d) .str) = true := by
      rw [List.all_map] at h
      exact List.all_eq_true.mpr fun d hd => by
        obtain ⟨x, e⟩ := isName_str (List.all_eq_true.mp h d hd)
        rw [e]; rfl
    rw [this]
    cases ds.isEmpty <;> cases ds.all (tupN 2) <;> cases (ds.map at0).all isName <;> simp
theorem keys_two (ds : List D) : keysOk (.tuple ds) = (pairsL (.tuple ds) && ds.all wayOk) := by
  have hp : ds.all pairL = (ds.all (tupN 2) && (ds.map at0).all isName && ds.all fun d => isTy (at1 d) .str) := by
    rw [List.all_map]
    induction ds with
    | nil => rfl
    | cons d ds ih =>
      simp only [List.all_cons, ih, pairL, Function.comp]
      cases tupN 2 d <;> cases isName (at0 d) <;> cases isTy (at1 d) .str <;> cases ds.all (tupN 2) <;> cases ds.all (isName ∘ at0) <;> simp [Function.comp_def]
  simp only [keysOk, pairsL, hp, namesOk, List.length_map]
  cases h : ds.all wayOk with
  | false => simp
  | true =>
    have : (ds.all fun d => isTy (at1 d) .str) = true := List.all_eq_true.mpr fun d hd => by
      have := List.all_eq_true.mp h d hd
      unfold wayOk at this
      cases e : at1 d with
      | str _ => rfl
      | _ => rw [e] at this; cases this
    rw [this]
    cases ds.isEmpty <;> cases ds.all (tupN 2) <;> cases (ds.map at0).all isName <;> simp
theorem po_where (ps : List D) : partsOk w_where ps = only (isSum 5) ps := by kernel_rfl
theorem po_take (ps : List D) : partsOk w_take ps = only (areNames 1) ps := by kernel_rfl
theorem po_add (ps : List D) : partsOk w_add ps = only2 (fun a b => isName a && isSum 5 b) ps := by kernel_rfl
theorem po_name (ps : List D) : partsOk w_name ps = only2 (fun a b => isName a && isName b) ps := by kernel_rfl
theorem po_first (ps : List D) : partsOk w_first ps = only firstOk ps := by kernel_rfl
theorem po_sort (ps : List D) : partsOk w_sort ps = only keysOk ps := by kernel_rfl
theorem po_group (ps : List D) : partsOk w_group ps = only2 (fun a b => areNames 0 a && heapsOk b) ps := by kernel_rfl
theorem po_join (ps : List D) : partsOk w_join ps = only pairsOk ps := by kernel_rfl
theorem po_left (ps : List D) : partsOk w_left ps = only pairsOk ps := by kernel_rfl
theorem po_once (ps : List D) : partsOk w_once ps = (ps.isEmpty && true) := by kernel_rfl
theorem po_both (ps : List D) : partsOk w_both ps = (ps.isEmpty && true) := by kernel_rfl
theorem po_minus (ps : List D) : partsOk w_minus ps = (ps.isEmpty && true) := by kernel_rfl
def manyT : List (Str × Nat) := [(w_where, 2), (w_take, 2), (w_add, 3), (w_name, 3), (w_once, 1), (w_first, 2), (w_sort, 2), (w_group, 3), (w_join, 3), (w_left, 3), (w_both, 2), (w_minus, 2)]
def lookN (w : Str) : List (Str × Nat) → Option Nat
  | [] => none
  | (x, n) :: r => if x = w then some n else lookN w r
def manyKv : List (D × D) := manyT.map fun p => (.str p.1, .int p.2)
theorem look_kv (w : Str) : ∀ l : List (Str × Nat), lookD w (l.map fun p => ((.str p.1, .int p.2) : D × D)) = (lookN w l).map fun n => .int n
  | [] => rfl
  | (x, n) :: r => by
    show (if x = w then some (PyData.int n) else lookD w (r.map _)) = _
    unfold lookN
    by_cases h : x = w
    · rw [if_pos h, if_pos h]; rfl
    · rw [if_neg h, if_neg h, look_kv w r]
theorem look_mem {w : Str} : ∀ {l : List (Str × Nat)} {n : Nat}, lookN w l = some n → (w, n) ∈ l
  | [], _, h => by cases h
  | (x, m) :: r, n, h => by
    unfold lookN at h
    by_cases e : x = w
    · rw [if_pos e] at h; cases h; rw [e]; simp
    · rw [if_neg e] at h; exact List.mem_cons_of_mem _ (look_mem h)
theorem look_none {w : Str} : ∀ {l : List (Str × Nat)}, lookN w l = none → ∀ p ∈ l, p.1 ≠ w
  | [], _, p, hp => by simp at hp
  | (x, m) :: r, h, p, hp => by
    unfold lookN at h
    by_cases e : x = w
    · rw [if_pos e] at h; cases h
    · rw [if_neg e] at h
      rcases List.mem_cons.mp hp with rfl | hp
      · exact e
      · exact look_none h p hp
theorem only_true {f : D → Bool} {ps : List D} (h : only f ps = true) : ps.length = 1 := Decidable.byContradiction fun z => by rw [only_len z] at h; cases h
theorem only2_true {f : D → D → Bool} {ps : List D} (h : only2 f ps = true) : ps.length = 2 := Decidable.byContradiction fun z => by rw [only2_len z] at h; cases h
theorem empty_true {ps : List D} (h : (ps.isEmpty && true) = true) : ps.length = 0 := by
  cases ps with
  | nil => rfl
  | cons _ _ => cases h
theorem parts_len {w : Str} {n : Nat} (h : (w, n) ∈ manyT) {ps : List D} (hp : partsOk w ps = true) : ps.length + manyQ w = n := by
  simp only [manyT, List.mem_cons, List.not_mem_nil, or_false, Prod.mk.injEq] at h
  rcases h with ⟨rfl, rfl⟩ | ⟨rfl, rfl⟩ | ⟨rfl, rfl⟩ | ⟨rfl, rfl⟩ | ⟨rfl, rfl⟩ | ⟨rfl, rfl⟩ | ⟨rfl, rfl⟩ | ⟨rfl, rfl⟩ | ⟨rfl, rfl⟩ | ⟨rfl, rfl⟩ | ⟨rfl, rfl⟩ | ⟨rfl, rfl⟩
  · rw [po_where] at hp; rw [only_true hp]; decide +kernel
  · rw [po_take] at hp; rw [only_true hp]; decide +kernel
  · rw [po_add] at hp; rw [only2_true hp]; decide +kernel
  · rw [po_name] at hp; rw [only2_true hp]; decide +kernel
  · rw [po_once] at hp; rw [empty_true hp]; decide +kernel
  · rw [po_first] at hp; rw [only_true hp]; decide +kernel
  · rw [po_sort] at hp; rw [only_true hp]; decide +kernel
  · rw [po_group] at hp; rw [only2_true hp]; decide +kernel
  · rw [po_join] at hp; rw [only_true hp]; decide +kernel
  · rw [po_left] at hp; rw [only_true hp]; decide +kernel
  · rw [po_both] at hp; rw [empty_true hp]; decide +kernel
  · rw [po_minus] at hp; rw [empty_true hp]; decide +kernel
theorem parts_none {w : Str} (h : lookN w manyT = none) (ps : List D) : partsOk w ps = false := by
  have hn := look_none h
  have b : ∀ x n, (x, n) ∈ manyT → (w == x) = false := fun x n hx => beq_eq_false_iff_ne.mpr fun z => hn (x, n) hx z.symm
  have m1 : decide (w ∈ [w_join, w_left]) = false := decide_eq_false fun z => by
    simp only [List.mem_cons, List.not_mem_nil, or_false] at z
    rcases z with z | z
    · exact hn (w_join, 3) (by simp [manyT]) z.symm
    · exact hn (w_left, 3) (by simp [manyT]) z.symm
  have m2 : decide (w ∈ [w_once, w_both, w_minus]) = false := decide_eq_false fun z => by
    simp only [List.mem_cons, List.not_mem_nil, or_false] at z
    rcases z with z | z | z
    · exact hn (w_once, 1) (by simp [manyT]) z.symm
    · exact hn (w_both, 2) (by simp [manyT]) z.symm
    · exact hn (w_minus, 2) (by simp [manyT]) z.symm
  simp only [partsOk, b w_where 2 (by simp [manyT]), b w_take 2 (by simp [manyT]), b w_add 3 (by simp [manyT]), b w_name 3 (by simp [manyT]), b w_first 2 (by simp [manyT]), b w_sort 2 (by simp [manyT]), b w_group 3 (by simp [manyT]), m1, m2, if_false, Bool.false_eq_true, Bool.and_false]
theorem len3 (ds : List D) : ds.length = 3 ↔ ∃ a b c, ds = [a, b, c] := by
  constructor
  · intro h
    match ds, h with
    | [a, b, c], _ => exact ⟨a, b, c, rfl⟩
  · rintro ⟨a, b, c, rfl⟩; rfl
theorem law_other_eq (k : Nat) (w : Str) (n : Nat) (rest : List D) (hw : (w, n) ∈ manyT) (h2 : w ∉ twos) (hl : rest.length = n) (hf : fine 1000 (.tuple rest) = true) : callF defs (k + 9) F.law_is_other [.str w, .tuple rest] = .ok (.bool (partsOk w (rest.drop 1))) := by
  rw [u_law_is_other]
  have fm := (fine_tuple.mp hf).2
  have hS : ∀ d : D, fine 1000 d = true → callF defs (k + 8) F.law_is_sum [d, .int 5] = .ok (.bool (isSum 5 d)) := fun d h => by
    have := law_sum_told 5 (k + 1) d 5 rfl (fine_noDict d h)
    rw [show 5 + (k + 1) + 2 = k + 8 by omega] at this
    exact this
  have hN : ∀ d : D, fine 1000 d = true → callF defs (k + 8) F.law_is_name [d] = .ok (.bool (isName d)) := fun d h => law_name_eq (k + 7) d (fine_noDict d h)
  have hA : ∀ (d : D) (j : Nat), fine 1000 d = true → callF defs (k + 8) F.law_are_names [d, .int j] = .ok (.bool (areNames j d)) := fun d j h => law_names_eq (k + 6) d j h
  have hP : ∀ d : D, fine 1000 d = true → callF defs (k + 8) F.law_are_pairs [d] = .ok (.bool (pairsL d)) := fun d h => law_pairs_eq (k + 6) d h
  have hH : ∀ d : D, fine 1000 d = true → callF defs (k + 8) F.law_is_heap [d] = .ok (.bool (heapOk d)) := fun d h => law_heap_eq (k + 6) d h
  generalize callF defs (k + 8) = ρ at hS hN hA hP hH
  have hv : evalE ρ (.var 1) [some (.str w), some (.tuple rest), none] = .ok (.tuple rest) := by simp only [evalSs, evalS, evalE, evalEs, evalIT, Res.bind_ok, Res.bind_bad, Res.bind_exc, Res.tame_ok, Fl.go_next, Fl.go_ret, Fl.fin_next, Fl.fin_ret, slot_some, List.getElem?_cons_zero, List.getElem?_cons_succ, List.set_cons_zero, List.set_cons_succ, put_nm, put_tu, puts_nil, puts_cons, chainK_t, chainK_f, truth_bool, truth_none, truth_int, truth_list, truth_tuple, truth_str, o2_add_i, o2_sub_i, o2_lt_i, o2_le_i, o2_gt_i, o2_ge_i, o2_is_n, o2_is_b, o2_isnot_n, o2_isnot_b, o2_eq_i, o2_eq_s, o2_eq_ns, o2_eq_b, o2_ne_b, o2_idx_t0, o2_idx_t1, o1_len_scr, o1_len_t, o1_len_l, o1_len_s, o1_not_b, o1_tuple_l, o1_list_t, o1_list_l, o1_rev_t, o1_neg_i, o1_int_b, isi_s, isi_i, isi_b, isi_n, isi_t, isi_l, isTy, isNone_n, isNone_b, isNone_i, isNone_s, isNone_t, isNone_l, isBool_b, Bool.not_true, Bool.not_false, eq_self, if_true, if_false, Bool.false_eq_true, reduceIte, beq_self_eq_true]
  have hw0 : evalE ρ (.var 0) [some (.str w), some (.tuple rest), none] = .ok (.str w) := by simp only [evalSs, evalS, evalE, evalEs, evalIT, Res.bind_ok, Res.bind_bad, Res.bind_exc, Res.tame_ok, Fl.go_next, Fl.go_ret, Fl.fin_next, Fl.fin_ret, slot_some, List.getElem?_cons_zero, List.getElem?_cons_succ, List.set_cons_zero, List.set_cons_succ, put_nm, put_tu, puts_nil, puts_cons, chainK_t, chainK_f, truth_bool, truth_none, truth_int, truth_list, truth_tuple, truth_str, o2_add_i, o2_sub_i, o2_lt_i, o2_le_i, o2_gt_i, o2_ge_i, o2_is_n, o2_is_b, o2_isnot_n, o2_isnot_b, o2_eq_i, o2_eq_s, o2_eq_ns, o2_eq_b, o2_ne_b, o2_idx_t0, o2_idx_t1, o1_len_scr, o1_len_t, o1_len_l, o1_len_s, o1_not_b, o1_tuple_l, o1_list_t, o1_list_l, o1_rev_t, o1_neg_i, o1_int_b, isi_s, isi_i, isi_b, isi_n, isi_t, isi_l, isTy, isNone_n, isNone_b, isNone_i, isNone_s, isNone_t, isNone_l, isBool_b, Bool.not_true, Bool.not_false, eq_self, if_true, if_false, Bool.false_eq_true, reduceIte, beq_self_eq_true]
  have p1 : ∀ {a b : D} {r : List D}, rest = a :: b :: r → evalE ρ (.o2 .idx (.var 1) (.int 1)) [some (.str w), some (.tuple rest), none] = .ok b ∧ fine 1000 b = true := fun {a b r} e => ⟨idx_at (i := 1) hv (by rw [e]; rfl), fm b (by rw [e]; simp)⟩
  have p2 : ∀ {a b c : D} {r : List D}, rest = a :: b :: c :: r → evalE ρ (.o2 .idx (.var 1) (.int 2)) [some (.str w), some (.tuple rest), none] = .ok c ∧ fine 1000 c = true := fun {a b c r} e => ⟨idx_at (i := 2) hv (by rw [e]; rfl), fm c (by rw [e]; simp)⟩
  have num : ∀ x m, lookN x manyT = some m → w = x → n = m := fun x m hx e => by
    subst e
    simp only [manyT, List.mem_cons, List.not_mem_nil, or_false, Prod.mk.injEq] at hw
    rcases hw with ⟨rfl, rfl⟩ | ⟨rfl, rfl⟩ | ⟨rfl, rfl⟩ | ⟨rfl, rfl⟩ | ⟨rfl, rfl⟩ | ⟨rfl, rfl⟩ | ⟨rfl, rfl⟩ | ⟨rfl, rfl⟩ | ⟨rfl, rfl⟩ | ⟨rfl, rfl⟩ | ⟨rfl, rfl⟩ | ⟨rfl, rfl⟩ <;> exact Option.some.inj ((show some _ = lookN _ manyT by kernel_rfl).trans hx)
  refine fin_of ?_
  refine seq_if (o2_is_s hw0) (fun t => ?_) fun f1 => ?_
  · have e := eq_of_beq t
    obtain ⟨q, a, er⟩ := (len2 rest).mp (hl.trans (num w_where 2 (by kernel_rfl) e))
    have r := call2 (f := F.law_is_sum) (p1 er).1 (show evalE ρ (.int 5) [some (.str w), some (.tuple rest), none] = .ok (.int 5) by simp only [evalSs, evalS, evalE, evalEs, evalIT, Res.bind_ok, Res.bind_bad, Res.bind_exc, Res.tame_ok, Fl.go_next, Fl.go_ret, Fl.fin_next, Fl.fin_ret, slot_some, List.getElem?_cons_zero, List.getElem?_cons_succ, List.set_cons_zero, List.set_cons_succ, put_nm, put_tu, puts_nil, puts_cons, chainK_t, chainK_f, truth_bool, truth_none, truth_int, truth_list, truth_tuple, truth_str, o2_add_i, o2_sub_i, o2_lt_i, o2_le_i, o2_gt_i, o2_ge_i, o2_is_n, o2_is_b, o2_isnot_n, o2_isnot_b, o2_eq_i, o2_eq_s, o2_eq_ns, o2_eq_b, o2_ne_b, o2_idx_t0, o2_idx_t1, o1_len_scr, o1_len_t, o1_len_l, o1_len_s, o1_not_b, o1_tuple_l, o1_list_t, o1_list_l, o1_rev_t, o1_neg_i, o1_int_b, isi_s, isi_i, isi_b, isi_n, isi_t, isi_l, isTy, isNone_n, isNone_b, isNone_i, isNone_s, isNone_t, isNone_l, isBool_b, Bool.not_true, Bool.not_false, eq_self, if_true, if_false, Bool.false_eq_true, reduceIte, beq_self_eq_true]) (hS a (p1 er).2)
    exact ret_b r (by rw [e, po_where, er]; rfl)
  refine seq_if (o2_is_s hw0) (fun t => ?_) fun f2 => ?_
  · have e := eq_of_beq t
    obtain ⟨q, a, er⟩ := (len2 rest).mp (hl.trans (num w_take 2 (by kernel_rfl) e))
    exact ret_b (call2 (f := F.law_are_names) (p1 er).1 (show evalE ρ (.int 1) [some (.str w), some (.tuple rest), none] = .ok (.int ((1 : Nat) : Int)) by simp only [evalSs, evalS, evalE, evalEs, evalIT, Res.bind_ok, Res.bind_bad, Res.bind_exc, Res.tame_ok, Fl.go_next, Fl.go_ret, Fl.fin_next, Fl.fin_ret, slot_some, List.getElem?_cons_zero, List.getElem?_cons_succ, List.set_cons_zero, List.set_cons_succ, put_nm, put_tu, puts_nil, puts_cons, chainK_t, chainK_f, truth_bool, truth_none, truth_int, truth_list, truth_tuple, truth_str, o2_add_i, o2_sub_i, o2_lt_i, o2_le_i, o2_gt_i, o2_ge_i, o2_is_n, o2_is_b, o2_isnot_n, o2_isnot_b, o2_eq_i, o2_eq_s, o2_eq_ns, o2_eq_b, o2_ne_b, o2_idx_t0, o2_idx_t1, o1_len_scr, o1_len_t, o1_len_l, o1_len_s, o1_not_b, o1_tuple_l, o1_list_t, o1_list_l, o1_rev_t, o1_neg_i, o1_int_b, isi_s, isi_i, isi_b, isi_n, isi_t, isi_l, isTy, isNone_n, isNone_b, isNone_i, isNone_s, isNone_t, isNone_l, isBool_b, Bool.not_true, Bool.not_false, eq_self, if_true, if_false, Bool.false_eq_true, reduceIte, beq_self_eq_true] <;> rfl) (hA a 1 (p1 er).2)) (by rw [e, po_take, er]; rfl)
  refine seq_if (o2_is_s hw0) (fun t => ?_) fun f3 => ?_
  · have e := eq_of_beq t
    obtain ⟨q, a, b, er⟩ := (len3 rest).mp (hl.trans (num w_add 3 (by kernel_rfl) e))
    exact ret_b (and_b (call1 (p1 er).1 (hN a (p1 er).2)) fun _ => call2 (f := F.law_is_sum) (p2 er).1 (show evalE ρ (.int 5) [some (.str w), some (.tuple rest), none] = .ok (.int 5) by simp only [evalSs, evalS, evalE, evalEs, evalIT, Res.bind_ok, Res.bind_bad, Res.bind_exc, Res.tame_ok, Fl.go_next, Fl.go_ret, Fl.fin_next, Fl.fin_ret, slot_some, List.getElem?_cons_zero, List.getElem?_cons_succ, List.set_cons_zero, List.set_cons_succ, put_nm, put_tu, puts_nil, puts_cons, chainK_t, chainK_f, truth_bool, truth_none, truth_int, truth_list, truth_tuple, truth_str, o2_add_i, o2_sub_i, o2_lt_i, o2_le_i, o2_gt_i, o2_ge_i, o2_is_n, o2_is_b, o2_isnot_n, o2_isnot_b, o2_eq_i, o2_eq_s, o2_eq_ns, o2_eq_b, o2_ne_b, o2_idx_t0, o2_idx_t1, o1_len_scr, o1_len_t, o1_len_l, o1_len_s, o1_not_b, o1_tuple_l, o1_list_t, o1_list_l, o1_rev_t, o1_neg_i, o1_int_b, isi_s, isi_i, isi_b, isi_n, isi_t, isi_l, isTy, isNone_n, isNone_b, isNone_i, isNone_s, isNone_t, isNone_l, isBool_b, Bool.not_true, Bool.not_false, eq_self, if_true, if_false, Bool.false_eq_true, reduceIte, beq_self_eq_true]) (hS b (p2 er).2)) (by rw [e, po_add, er]; rfl)
  refine seq_if (o2_is_s hw0) (fun t => ?_) fun f4 => ?_
  · have e := eq_of_beq t
    obtain ⟨q, a, b, er⟩ := (len3 rest).mp (hl.trans (num w_name 3 (by kernel_rfl) e))
    exact ret_b (and_b (call1 (p1 er).1 (hN a (p1 er).2)) fun _ => call1 (p2 er).1 (hN b (p2 er).2)) (by rw [e, po_name, er]; rfl)
  refine seq_if (o2_is_s hw0) (fun t => ?_) fun f5 => ?_
  · have e := eq_of_beq t
    obtain ⟨q, a, er⟩ := (len2 rest).mp (hl.trans (num w_first 2 (by kernel_rfl) e))
    exact ret_b (first_eq (p1 er).1 (fine_noDict a (p1 er).2)) (by rw [e, po_first, er]; rfl)
  refine seq_if (o2_is_s hw0) (fun t => ?_) fun f6 => ?_
  · have e := eq_of_beq t
    obtain ⟨q, a, er⟩ := (len2 rest).mp (hl.trans (num w_sort 2 (by kernel_rfl) e))
    have fa := (p1 er).2
    have ea := (p1 er).1
    have g : partsOk w (rest.drop 1) = keysOk a := by rw [e, po_sort, er]; rfl
    rw [g]
    have h1 := call1 ea (hP a fa)
    cases a with
    | tuple ds =>
      cases q1 : pairsL (.tuple ds) with
      | false =>
        rw [q1] at h1
        exact ret_b (and_b (y := false) h1 fun z => nomatch z) (by rw [keys_two, q1]; rfl)
      | true =>
        rw [q1] at h1
        have nds : noDicts ds = true := by simpa [noDict] using fine_noDict _ fa
        have hall : ds.all pairL = true := by
          simp only [pairsL, Bool.and_eq_true] at q1
          exact q1.1.2
        have hc : evalE ρ c_law_is_other_0 [some (.str w), some (.tuple rest), none] = .ok (.list ((ds.filter fun d => !wayOk d).map id)) := by
          unfold c_law_is_other_0
          refine compIf_any (by simp only [evalIT]; rw [ea]; rfl) fun d hd => ?_
          have hp := List.all_eq_true.mp hall d hd
          unfold pairL at hp
          simp only [Bool.and_eq_true] at hp
          have ndd := noDicts_mem nds hd
          obtain ⟨x, y, rfl⟩ := tup2_shape hp.1.1
          simp only [noDict, noDicts, Bool.and_eq_true] at ndd
          have i2 : op2 .notin y (.tuple [.str w_up, .str w_down]) = .ok (.bool (!inWords [w_up, w_down] y)) := notin_words y [w_up, w_down] ndd.2.1
          exact ⟨_, by simp only [evalSs, evalS, evalE, evalEs, evalIT, Res.bind_ok, Res.bind_bad, Res.bind_exc, Res.tame_ok, Fl.go_next, Fl.go_ret, Fl.fin_next, Fl.fin_ret, slot_some, List.getElem?_cons_zero, List.getElem?_cons_succ, List.set_cons_zero, List.set_cons_succ, put_nm, put_tu, puts_nil, puts_cons, chainK_t, chainK_f, truth_bool, truth_none, truth_int, truth_list, truth_tuple, truth_str, o2_add_i, o2_sub_i, o2_lt_i, o2_le_i, o2_gt_i, o2_ge_i, o2_is_n, o2_is_b, o2_isnot_n, o2_isnot_b, o2_eq_i, o2_eq_s, o2_eq_ns, o2_eq_b, o2_ne_b, o2_idx_t0, o2_idx_t1, o1_len_scr, o1_len_t, o1_len_l, o1_len_s, o1_not_b, o1_tuple_l, o1_list_t, o1_list_l, o1_rev_t, o1_neg_i, o1_int_b, isi_s, isi_i, isi_b, isi_n, isi_t, isi_l, isTy, isNone_n, isNone_b, isNone_i, isNone_s, isNone_t, isNone_l, isBool_b, Bool.not_true, Bool.not_false, eq_self, if_true, if_false, Bool.false_eq_true, reduceIte, beq_self_eq_true] <;> rfl, by simp only [evalSs, evalS, evalE, evalEs, evalIT, Res.bind_ok, Res.bind_bad, Res.bind_exc, Res.tame_ok, Fl.go_next, Fl.go_ret, Fl.fin_next, Fl.fin_ret, slot_some, List.getElem?_cons_zero, List.getElem?_cons_succ, List.set_cons_zero, List.set_cons_succ, put_nm, put_tu, puts_nil, puts_cons, chainK_t, chainK_f, truth_bool, truth_none, truth_int, truth_list, truth_tuple, truth_str, o2_add_i, o2_sub_i, o2_lt_i, o2_le_i, o2_gt_i, o2_ge_i, o2_is_n, o2_is_b, o2_isnot_n, o2_isnot_b, o2_eq_i, o2_eq_s, o2_eq_ns, o2_eq_b, o2_ne_b, o2_idx_t0, o2_idx_t1, o1_len_scr, o1_len_t, o1_len_l, o1_len_s, o1_not_b, o1_tuple_l, o1_list_t, o1_list_l, o1_rev_t, o1_neg_i, o1_int_b, isi_s, isi_i, isi_b, isi_n, isi_t, isi_l, isTy, isNone_n, isNone_b, isNone_i, isNone_s, isNone_t, isNone_l, isBool_b, Bool.not_true, Bool.not_false, eq_self, if_true, if_false, Bool.false_eq_true, reduceIte, beq_self_eq_true, i2, wayOk, at1], fun _ => by simp only [evalSs, evalS, evalE, evalEs, evalIT, Res.bind_ok, Res.bind_bad, Res.bind_exc, Res.tame_ok, Fl.go_next, Fl.go_ret, Fl.fin_next, Fl.fin_ret, slot_some, List.getElem?_cons_zero, List.getElem?_cons_succ, List.set_cons_zero, List.set_cons_succ, put_nm, put_tu, puts_nil, puts_cons, chainK_t, chainK_f, truth_bool, truth_none, truth_int, truth_list, truth_tuple, truth_str, o2_add_i, o2_sub_i, o2_lt_i, o2_le_i, o2_gt_i, o2_ge_i, o2_is_n, o2_is_b, o2_isnot_n, o2_isnot_b, o2_eq_i, o2_eq_s, o2_eq_ns, o2_eq_b, o2_ne_b, o2_idx_t0, o2_idx_t1, o1_len_scr, o1_len_t, o1_len_l, o1_len_s, o1_not_b, o1_tuple_l, o1_list_t, o1_list_l, o1_rev_t, o1_neg_i, o1_int_b, isi_s, isi_i, isi_b, isi_n, isi_t, isi_l, isTy, isNone_n, isNone_b, isNone_i, isNone_s, isNone_t, isNone_l, isBool_b, Bool.not_true, Bool.not_false, eq_self, if_true, if_false, Bool.false_eq_true, reduceIte, beq_self_eq_true] <;> rfl⟩
        have nf : noDicts ((ds.filter fun d => !wayOk d).map id) = true := by
          rw [List.map_id]
          exact noDicts_of fun d hd => noDicts_mem nds (List.mem_filter.mp hd).1
        have em : ((ds.filter fun d => !wayOk d).map id).isEmpty = ds.all wayOk := by rw [List.map_id]; exact filter_empty _ _
        have he := eq_nil_l _ nf
        rw [em] at he
        exact ret_b (and_b (y := ds.all wayOk) h1 fun _ => by simp only [evalSs, evalS, evalE, evalEs, evalIT, Res.bind_ok, Res.bind_bad, Res.bind_exc, Res.tame_ok, Fl.go_next, Fl.go_ret, Fl.fin_next, Fl.fin_ret, slot_some, List.getElem?_cons_zero, List.getElem?_cons_succ, List.set_cons_zero, List.set_cons_succ, put_nm, put_tu, puts_nil, puts_cons, chainK_t, chainK_f, truth_bool, truth_none, truth_int, truth_list, truth_tuple, truth_str, o2_add_i, o2_sub_i, o2_lt_i, o2_le_i, o2_gt_i, o2_ge_i, o2_is_n, o2_is_b, o2_isnot_n, o2_isnot_b, o2_eq_i, o2_eq_s, o2_eq_ns, o2_eq_b, o2_ne_b, o2_idx_t0, o2_idx_t1, o1_len_scr, o1_len_t, o1_len_l, o1_len_s, o1_not_b, o1_tuple_l, o1_list_t, o1_list_l, o1_rev_t, o1_neg_i, o1_int_b, isi_s, isi_i, isi_b, isi_n, isi_t, isi_l, isTy, isNone_n, isNone_b, isNone_i, isNone_s, isNone_t, isNone_l, isBool_b, Bool.not_true, Bool.not_false, eq_self, if_true, if_false, Bool.false_eq_true, reduceIte, beq_self_eq_true, hc, he]) (by rw [keys_two, q1])
    | _ =>
      exact ret_b (and_b (x := false) (y := false) h1 fun z => nomatch z) rfl
  refine seq_if (o2_is_s hw0) (fun t => ?_) fun f7 => ?_
  · have e := eq_of_beq t
    obtain ⟨q, a, b, er⟩ := (len3 rest).mp (hl.trans (num w_group 3 (by kernel_rfl) e))
    have g : partsOk w (rest.drop 1) = (areNames 0 a && heapsOk b) := by rw [e, po_group, er]; rfl
    rw [g]
    have n0 := call2 (f := F.law_are_names) (p1 er).1 (show evalE ρ (.int 0) [some (.str w), some (.tuple rest), none] = .ok (.int ((0 : Nat) : Int)) by simp only [evalSs, evalS, evalE, evalEs, evalIT, Res.bind_ok, Res.bind_bad, Res.bind_exc, Res.tame_ok, Fl.go_next, Fl.go_ret, Fl.fin_next, Fl.fin_ret, slot_some, List.getElem?_cons_zero, List.getElem?_cons_succ, List.set_cons_zero, List.set_cons_succ, put_nm, put_tu, puts_nil, puts_cons, chainK_t, chainK_f, truth_bool, truth_none, truth_int, truth_list, truth_tuple, truth_str, o2_add_i, o2_sub_i, o2_lt_i, o2_le_i, o2_gt_i, o2_ge_i, o2_is_n, o2_is_b, o2_isnot_n, o2_isnot_b, o2_eq_i, o2_eq_s, o2_eq_ns, o2_eq_b, o2_ne_b, o2_idx_t0, o2_idx_t1, o1_len_scr, o1_len_t, o1_len_l, o1_len_s, o1_not_b, o1_tuple_l, o1_list_t, o1_list_l, o1_rev_t, o1_neg_i, o1_int_b, isi_s, isi_i, isi_b, isi_n, isi_t, isi_l, isTy, isNone_n, isNone_b, isNone_i, isNone_s, isNone_t, isNone_l, isBool_b, Bool.not_true, Bool.not_false, eq_self, if_true, if_false, Bool.false_eq_true, reduceIte, beq_self_eq_true] <;> rfl) (hA a 0 (p1 er).2)
    have eb := (p2 er).1
    have fb := (p2 er).2
    have ib := isi_at eb .tuple (fine_noDict b fb)
    cases q1 : areNames 0 a with
    | false =>
      rw [q1] at n0
      exact seq_if (or_b (x := true) (y := true) (not_b n0) fun z => nomatch z) (fun _ => ret_b (x := false) (by simp only [evalSs, evalS, evalE, evalEs, evalIT, Res.bind_ok, Res.bind_bad, Res.bind_exc, Res.tame_ok, Fl.go_next, Fl.go_ret, Fl.fin_next, Fl.fin_ret, slot_some, List.getElem?_cons_zero, List.getElem?_cons_succ, List.set_cons_zero, List.set_cons_succ, put_nm, put_tu, puts_nil, puts_cons, chainK_t, chainK_f, truth_bool, truth_none, truth_int, truth_list, truth_tuple, truth_str, o2_add_i, o2_sub_i, o2_lt_i, o2_le_i, o2_gt_i, o2_ge_i, o2_is_n, o2_is_b, o2_isnot_n, o2_isnot_b, o2_eq_i, o2_eq_s, o2_eq_ns, o2_eq_b, o2_ne_b, o2_idx_t0, o2_idx_t1, o1_len_scr, o1_len_t, o1_len_l, o1_len_s, o1_not_b, o1_tuple_l, o1_list_t, o1_list_l, o1_rev_t, o1_neg_i, o1_int_b, isi_s, isi_i, isi_b, isi_n, isi_t, isi_l, isTy, isNone_n, isNone_b, isNone_i, isNone_s, isNone_t, isNone_l, isBool_b, Bool.not_true, Bool.not_false, eq_self, if_true, if_false, Bool.false_eq_true, reduceIte, beq_self_eq_true]) rfl) fun z => nomatch z
    | true =>
      rw [q1] at n0
      cases b with
      | tuple ds =>
        have nds : noDicts ds = true := by simpa [noDict] using fine_noDict _ fb
        have he := eq_nil_t ds nds
        have hq : evalE ρ (.o2 .eq (.o2 .idx (.var 1) (.int 2)) (.tup .nil)) [some (.str w), some (.tuple rest), none] = .ok (.bool ds.isEmpty) := by
          simp only [evalE, evalEs, bind_ok] at eb ⊢
          rw [eb]
          exact he
        refine seq_if (or_b (x := false) (y := ds.isEmpty) (not_b n0) fun _ => or_b (x := false) (y := ds.isEmpty) (not_b ib) fun _ => hq) (fun z => ret_b (x := false) (by simp only [evalSs, evalS, evalE, evalEs, evalIT, Res.bind_ok, Res.bind_bad, Res.bind_exc, Res.tame_ok, Fl.go_next, Fl.go_ret, Fl.fin_next, Fl.fin_ret, slot_some, List.getElem?_cons_zero, List.getElem?_cons_succ, List.set_cons_zero, List.set_cons_succ, put_nm, put_tu, puts_nil, puts_cons, chainK_t, chainK_f, truth_bool, truth_none, truth_int, truth_list, truth_tuple, truth_str, o2_add_i, o2_sub_i, o2_lt_i, o2_le_i, o2_gt_i, o2_ge_i, o2_is_n, o2_is_b, o2_isnot_n, o2_isnot_b, o2_eq_i, o2_eq_s, o2_eq_ns, o2_eq_b, o2_ne_b, o2_idx_t0, o2_idx_t1, o1_len_scr, o1_len_t, o1_len_l, o1_len_s, o1_not_b, o1_tuple_l, o1_list_t, o1_list_l, o1_rev_t, o1_neg_i, o1_int_b, isi_s, isi_i, isi_b, isi_n, isi_t, isi_l, isTy, isNone_n, isNone_b, isNone_i, isNone_s, isNone_t, isNone_l, isBool_b, Bool.not_true, Bool.not_false, eq_self, if_true, if_false, Bool.false_eq_true, reduceIte, beq_self_eq_true]) ?_) fun z => ?_
        · have z : ds.isEmpty = true := by simpa using z
          simp only [heapsOk, z, Bool.not_true, Bool.false_and, Bool.and_false]
        · have z : ds.isEmpty = false := by simpa using z
          have hc : evalE ρ c_law_is_other_1 [some (.str w), some (.tuple rest), none] = .ok (.list ((ds.filter fun d => !heapOk d).map id)) := by
            unfold c_law_is_other_1
            refine compIf_any (by simp only [evalIT]; rw [eb]; rfl) fun d hd => ?_
            have := hH d ((fine_tuple.mp fb).2 d hd)
            exact ⟨_, by simp only [evalSs, evalS, evalE, evalEs, evalIT, Res.bind_ok, Res.bind_bad, Res.bind_exc, Res.tame_ok, Fl.go_next, Fl.go_ret, Fl.fin_next, Fl.fin_ret, slot_some, List.getElem?_cons_zero, List.getElem?_cons_succ, List.set_cons_zero, List.set_cons_succ, put_nm, put_tu, puts_nil, puts_cons, chainK_t, chainK_f, truth_bool, truth_none, truth_int, truth_list, truth_tuple, truth_str, o2_add_i, o2_sub_i, o2_lt_i, o2_le_i, o2_gt_i, o2_ge_i, o2_is_n, o2_is_b, o2_isnot_n, o2_isnot_b, o2_eq_i, o2_eq_s, o2_eq_ns, o2_eq_b, o2_ne_b, o2_idx_t0, o2_idx_t1, o1_len_scr, o1_len_t, o1_len_l, o1_len_s, o1_not_b, o1_tuple_l, o1_list_t, o1_list_l, o1_rev_t, o1_neg_i, o1_int_b, isi_s, isi_i, isi_b, isi_n, isi_t, isi_l, isTy, isNone_n, isNone_b, isNone_i, isNone_s, isNone_t, isNone_l, isBool_b, Bool.not_true, Bool.not_false, eq_self, if_true, if_false, Bool.false_eq_true, reduceIte, beq_self_eq_true] <;> rfl, by simp only [evalSs, evalS, evalE, evalEs, evalIT, Res.bind_ok, Res.bind_bad, Res.bind_exc, Res.tame_ok, Fl.go_next, Fl.go_ret, Fl.fin_next, Fl.fin_ret, slot_some, List.getElem?_cons_zero, List.getElem?_cons_succ, List.set_cons_zero, List.set_cons_succ, put_nm, put_tu, puts_nil, puts_cons, chainK_t, chainK_f, truth_bool, truth_none, truth_int, truth_list, truth_tuple, truth_str, o2_add_i, o2_sub_i, o2_lt_i, o2_le_i, o2_gt_i, o2_ge_i, o2_is_n, o2_is_b, o2_isnot_n, o2_isnot_b, o2_eq_i, o2_eq_s, o2_eq_ns, o2_eq_b, o2_ne_b, o2_idx_t0, o2_idx_t1, o1_len_scr, o1_len_t, o1_len_l, o1_len_s, o1_not_b, o1_tuple_l, o1_list_t, o1_list_l, o1_rev_t, o1_neg_i, o1_int_b, isi_s, isi_i, isi_b, isi_n, isi_t, isi_l, isTy, isNone_n, isNone_b, isNone_i, isNone_s, isNone_t, isNone_l, isBool_b, Bool.not_true, Bool.not_false, eq_self, if_true, if_false, Bool.false_eq_true, reduceIte, beq_self_eq_true, this], fun _ => by simp only [evalSs, evalS, evalE, evalEs, evalIT, Res.bind_ok, Res.bind_bad, Res.bind_exc, Res.tame_ok, Fl.go_next, Fl.go_ret, Fl.fin_next, Fl.fin_ret, slot_some, List.getElem?_cons_zero, List.getElem?_cons_succ, List.set_cons_zero, List.set_cons_succ, put_nm, put_tu, puts_nil, puts_cons, chainK_t, chainK_f, truth_bool, truth_none, truth_int, truth_list, truth_tuple, truth_str, o2_add_i, o2_sub_i, o2_lt_i, o2_le_i, o2_gt_i, o2_ge_i, o2_is_n, o2_is_b, o2_isnot_n, o2_isnot_b, o2_eq_i, o2_eq_s, o2_eq_ns, o2_eq_b, o2_ne_b, o2_idx_t0, o2_idx_t1, o1_len_scr, o1_len_t, o1_len_l, o1_len_s, o1_not_b, o1_tuple_l, o1_list_t, o1_list_l, o1_rev_t, o1_neg_i, o1_int_b, isi_s, isi_i, isi_b, isi_n, isi_t, isi_l, isTy, isNone_n, isNone_b, isNone_i, isNone_s, isNone_t, isNone_l, isBool_b, Bool.not_true, Bool.not_false, eq_self, if_true, if_false, Bool.false_eq_true, reduceIte, beq_self_eq_true] <;> rfl⟩
          have nf : noDicts ((ds.filter fun d => !heapOk d).map id) = true := by
            rw [List.map_id]
            exact noDicts_of fun d hd => noDicts_mem nds (List.mem_filter.mp hd).1
          have em : ((ds.filter fun d => !heapOk d).map id).isEmpty = ds.all heapOk := by rw [List.map_id]; exact filter_empty _ _
          have he2 := eq_nil_l _ nf
          rw [em] at he2
          exact ret_b (x := ds.all heapOk) (by simp only [evalSs, evalS, evalE, evalEs, evalIT, Res.bind_ok, Res.bind_bad, Res.bind_exc, Res.tame_ok, Fl.go_next, Fl.go_ret, Fl.fin_next, Fl.fin_ret, slot_some, List.getElem?_cons_zero, List.getElem?_cons_succ, List.set_cons_zero, List.set_cons_succ, put_nm, put_tu, puts_nil, puts_cons, chainK_t, chainK_f, truth_bool, truth_none, truth_int, truth_list, truth_tuple, truth_str, o2_add_i, o2_sub_i, o2_lt_i, o2_le_i, o2_gt_i, o2_ge_i, o2_is_n, o2_is_b, o2_isnot_n, o2_isnot_b, o2_eq_i, o2_eq_s, o2_eq_ns, o2_eq_b, o2_ne_b, o2_idx_t0, o2_idx_t1, o1_len_scr, o1_len_t, o1_len_l, o1_len_s, o1_not_b, o1_tuple_l, o1_list_t, o1_list_l, o1_rev_t, o1_neg_i, o1_int_b, isi_s, isi_i, isi_b, isi_n, isi_t, isi_l, isTy, isNone_n, isNone_b, isNone_i, isNone_s, isNone_t, isNone_l, isBool_b, Bool.not_true, Bool.not_false, eq_self, if_true, if_false, Bool.false_eq_true, reduceIte, beq_self_eq_true, hc, he2]) (by simp only [heapsOk, z, Bool.not_false, Bool.true_and])
      | _ => exact seq_if (or_b (x := false) (y := true) (not_b n0) fun _ => or_b (x := true) (y := true) (not_b ib) fun z => nomatch z) (fun _ => ret_b (x := false) (by simp only [evalSs, evalS, evalE, evalEs, evalIT, Res.bind_ok, Res.bind_bad, Res.bind_exc, Res.tame_ok, Fl.go_next, Fl.go_ret, Fl.fin_next, Fl.fin_ret, slot_some, List.getElem?_cons_zero, List.getElem?_cons_succ, List.set_cons_zero, List.set_cons_succ, put_nm, put_tu, puts_nil, puts_cons, chainK_t, chainK_f, truth_bool, truth_none, truth_int, truth_list, truth_tuple, truth_str, o2_add_i, o2_sub_i, o2_lt_i, o2_le_i, o2_gt_i, o2_ge_i, o2_is_n, o2_is_b, o2_isnot_n, o2_isnot_b, o2_eq_i, o2_eq_s, o2_eq_ns, o2_eq_b, o2_ne_b, o2_idx_t0, o2_idx_t1, o1_len_scr, o1_len_t, o1_len_l, o1_len_s, o1_not_b, o1_tuple_l, o1_list_t, o1_list_l, o1_rev_t, o1_neg_i, o1_int_b, isi_s, isi_i, isi_b, isi_n, isi_t, isi_l, isTy, isNone_n, isNone_b, isNone_i, isNone_s, isNone_t, isNone_l, isBool_b, Bool.not_true, Bool.not_false, eq_self, if_true, if_false, Bool.false_eq_true, reduceIte, beq_self_eq_true]) rfl) fun z => nomatch z
  · have e : w = w_once := by
      simp only [manyT, List.mem_cons, List.not_mem_nil, or_false, Prod.mk.injEq] at hw
      simp only [twos, List.mem_cons, List.not_mem_nil, or_false, not_or] at h2
      have nb : ∀ x : Str, (w == x) = false → w ≠ x := fun x h => beq_eq_false_iff_ne.mp h
      rcases hw with ⟨h, _⟩ | ⟨h, _⟩ | ⟨h, _⟩ | ⟨h, _⟩ | ⟨h, _⟩ | ⟨h, _⟩ | ⟨h, _⟩ | ⟨h, _⟩ | ⟨h, _⟩ | ⟨h, _⟩ | ⟨h, _⟩ | ⟨h, _⟩
      · exact absurd h (nb _ f1)
      · exact absurd h (nb _ f2)
      · exact absurd h (nb _ f3)
      · exact absurd h (nb _ f4)
      · exact h
      · exact absurd h (nb _ f5)
      · exact absurd h (nb _ f6)
      · exact absurd h (nb _ f7)
      · exact absurd h h2.1
      · exact absurd h h2.2.1
      · exact absurd h h2.2.2.1
      · exact absurd h h2.2.2.2
    have l1 := hl.trans (num w_once 1 (by kernel_rfl) e)
    have : rest.drop 1 = [] := List.drop_of_length_le (by omega)
    exact ret_b (x := true) (by simp only [evalSs, evalS, evalE, evalEs, evalIT, Res.bind_ok, Res.bind_bad, Res.bind_exc, Res.tame_ok, Fl.go_next, Fl.go_ret, Fl.fin_next, Fl.fin_ret, slot_some, List.getElem?_cons_zero, List.getElem?_cons_succ, List.set_cons_zero, List.set_cons_succ, put_nm, put_tu, puts_nil, puts_cons, chainK_t, chainK_f, truth_bool, truth_none, truth_int, truth_list, truth_tuple, truth_str, o2_add_i, o2_sub_i, o2_lt_i, o2_le_i, o2_gt_i, o2_ge_i, o2_is_n, o2_is_b, o2_isnot_n, o2_isnot_b, o2_eq_i, o2_eq_s, o2_eq_ns, o2_eq_b, o2_ne_b, o2_idx_t0, o2_idx_t1, o1_len_scr, o1_len_t, o1_len_l, o1_len_s, o1_not_b, o1_tuple_l, o1_list_t, o1_list_l, o1_rev_t, o1_neg_i, o1_int_b, isi_s, isi_i, isi_b, isi_n, isi_t, isi_l, isTy, isNone_n, isNone_b, isNone_i, isNone_s, isNone_t, isNone_l, isBool_b, Bool.not_true, Bool.not_false, eq_self, if_true, if_false, Bool.false_eq_true, reduceIte, beq_self_eq_true]) (by rw [this, e, po_once]; rfl)
theorem manyq_made (ρ : Nat → List D → Res D) (a b c d e f : Option D) (ss : ISs) : evalSs ρ (.cons (.mset 2 (.dsp [w_where, w_take, w_add, w_name, w_once, w_first, w_sort, w_group] (.cons (.int 2) (.cons (.int 2) (.cons (.int 3) (.cons (.int 3) (.cons (.int 1) (.cons (.int 2) (.cons (.int 2) (.cons (.int 3) .nil)))))))))) (.cons l_law_is_quest_1 ss)) [a, b, none, none, c, d, e, f] = evalSs ρ ss [a, b, some (.dict manyKv), some (.str w_minus), c, d, e, f] := by
  kernel_rfl
theorem pub_ret {ρ : Nat → List D → Res D} {ms : List Nat} {ss : ISs} {env : En} {x : D} (hx : evalSs ρ ss env = .ok (.ret x)) : evalSs ρ (.pub ms ss) env = .ok (.ret x) := by simp only [evalSs, hx, bind_ok, Fl.go_ret]
theorem two_words {w : Str} {n : Nat} (h : (w, n) ∈ manyT) (h2 : w ∈ twos) : ((w = w_join ∨ w = w_left) ∧ n = 3) ∨ ((w = w_both ∨ w = w_minus) ∧ n = 2) := by
  have ne : ∀ x ∈ twos, ∀ y ∈ [w_where, w_take, w_add, w_name, w_once, w_first, w_sort, w_group], x ≠ y := by decide +kernel
  simp only [manyT, List.mem_cons, List.not_mem_nil, or_false, Prod.mk.injEq] at h
  have nn : ∀ y ∈ [w_where, w_take, w_add, w_name, w_once, w_first, w_sort, w_group], w ≠ y := ne w h2
  rcases h with ⟨h, _⟩ | ⟨h, _⟩ | ⟨h, _⟩ | ⟨h, _⟩ | ⟨h, _⟩ | ⟨h, _⟩ | ⟨h, _⟩ | ⟨h, _⟩ | ⟨h, h'⟩ | ⟨h, h'⟩ | ⟨h, h'⟩ | ⟨h, h'⟩
  · exact absurd h (nn _ (by simp))
  · exact absurd h (nn _ (by simp))
  · exact absurd h (nn _ (by simp))
  · exact absurd h (nn _ (by simp))
  · exact absurd h (nn _ (by simp))
  · exact absurd h (nn _ (by simp))
  · exact absurd h (nn _ (by simp))
  · exact absurd h (nn _ (by simp))
  · exact .inl ⟨.inl h, h'⟩
  · exact .inl ⟨.inr h, h'⟩
  · exact .inr ⟨.inl h, h'⟩
  · exact .inr ⟨.inr h, h'⟩
theorem quest_told : ∀ (n k : Nat) (d : D) (dp : Int), dp = n → fine 1000 d = true → callF defs (n + k + 10) F.law_is_quest [d, .int dp] = .ok (.bool (isQuest n d))
  | n, k, d, dp, e, hf => by
    rw [u_law_is_quest]
    have ih : ∀ m : Nat, n = m + 1 → ∀ d : D, fine 1000 d = true → callF defs (n + k + 9) F.law_is_quest [d, .int (dp - 1)] = .ok (.bool (isQuest m d)) := fun m hm d hd => by
      have := quest_told m k d (dp - 1) (by omega) hd
      rw [show n + k + 9 = m + k + 10 by omega]
      exact this
    have hN : ∀ d : D, fine 1000 d = true → callF defs (n + k + 9) F.law_is_name [d] = .ok (.bool (isName d)) := fun d hd => law_name_eq (n + k + 8) d (fine_noDict d hd)
    have hP : ∀ d : D, fine 1000 d = true → callF defs (n + k + 9) F.law_are_pairs [d] = .ok (.bool (pairsL d)) := fun d hd => law_pairs_eq (n + k + 7) d hd
    have hO : ∀ (w : Str) (j : Nat) (rest : List D), (w, j) ∈ manyT → w ∉ twos → rest.length = j → fine 1000 (.tuple rest) = true → callF defs (n + k + 9) F.law_is_other [.str w, .tuple rest] = .ok (.bool (partsOk w (rest.drop 1))) := fun w j rest h1 h2 h3 h4 => law_other_eq (n + k) w j rest h1 h2 h3 h4
    generalize callF defs (n + k + 9) = ρ at ih hN hP hO
    have nd := fine_noDict d hf
    cases d with
    | tuple ds =>
      match ds, hf, nd with
      | [], _, _ =>
        have : isQuest n (.tuple []) = false := by cases n <;> rfl
        rw [this]
        exact fin_of (seq_if_t (d := .bool true) (by simp only [evalSs, evalS, evalE, evalEs, evalIT, Res.bind_ok, Res.bind_bad, Res.bind_exc, Res.tame_ok, Fl.go_next, Fl.go_ret, Fl.fin_next, Fl.fin_ret, slot_some, List.getElem?_cons_zero, List.getElem?_cons_succ, List.set_cons_zero, List.set_cons_succ, put_nm, put_tu, puts_nil, puts_cons, chainK_t, chainK_f, truth_bool, truth_none, truth_int, truth_list, truth_tuple, truth_str, o2_add_i, o2_sub_i, o2_lt_i, o2_le_i, o2_gt_i, o2_ge_i, o2_is_n, o2_is_b, o2_isnot_n, o2_isnot_b, o2_eq_i, o2_eq_s, o2_eq_ns, o2_eq_b, o2_ne_b, o2_idx_t0, o2_idx_t1, o1_len_scr, o1_len_t, o1_len_l, o1_len_s, o1_not_b, o1_tuple_l, o1_list_t, o1_list_l, o1_rev_t, o1_neg_i, o1_int_b, isi_s, isi_i, isi_b, isi_n, isi_t, isi_l, isTy, isNone_n, isNone_b, isNone_i, isNone_s, isNone_t, isNone_l, isBool_b, Bool.not_true, Bool.not_false, eq_self, if_true, if_false, Bool.false_eq_true, reduceIte, beq_self_eq_true, len_0lt2]) rfl (seq_ret (by simp only [evalSs, evalS, evalE, evalEs, evalIT, Res.bind_ok, Res.bind_bad, Res.bind_exc, Res.tame_ok, Fl.go_next, Fl.go_ret, Fl.fin_next, Fl.fin_ret, slot_some, List.getElem?_cons_zero, List.getElem?_cons_succ, List.set_cons_zero, List.set_cons_succ, put_nm, put_tu, puts_nil, puts_cons, chainK_t, chainK_f, truth_bool, truth_none, truth_int, truth_list, truth_tuple, truth_str, o2_add_i, o2_sub_i, o2_lt_i, o2_le_i, o2_gt_i, o2_ge_i, o2_is_n, o2_is_b, o2_isnot_n, o2_isnot_b, o2_eq_i, o2_eq_s, o2_eq_ns, o2_eq_b, o2_ne_b, o2_idx_t0, o2_idx_t1, o1_len_scr, o1_len_t, o1_len_l, o1_len_s, o1_not_b, o1_tuple_l, o1_list_t, o1_list_l, o1_rev_t, o1_neg_i, o1_int_b, isi_s, isi_i, isi_b, isi_n, isi_t, isi_l, isTy, isNone_n, isNone_b, isNone_i, isNone_s, isNone_t, isNone_l, isBool_b, Bool.not_true, Bool.not_false, eq_self, if_true, if_false, Bool.false_eq_true, reduceIte, beq_self_eq_true] <;> rfl)))
      | [a], _, _ =>
        have : isQuest n (.tuple [a]) = false := by
          cases n with
          | zero => rfl
          | succ n =>
            cases a with
            | str w => exact quest_nil _ w
            | _ => rfl
        rw [this]
        exact fin_of (seq_if_t (d := .bool true) (by simp only [evalSs, evalS, evalE, evalEs, evalIT, Res.bind_ok, Res.bind_bad, Res.bind_exc, Res.tame_ok, Fl.go_next, Fl.go_ret, Fl.fin_next, Fl.fin_ret, slot_some, List.getElem?_cons_zero, List.getElem?_cons_succ, List.set_cons_zero, List.set_cons_succ, put_nm, put_tu, puts_nil, puts_cons, chainK_t, chainK_f, truth_bool, truth_none, truth_int, truth_list, truth_tuple, truth_str, o2_add_i, o2_sub_i, o2_lt_i, o2_le_i, o2_gt_i, o2_ge_i, o2_is_n, o2_is_b, o2_isnot_n, o2_isnot_b, o2_eq_i, o2_eq_s, o2_eq_ns, o2_eq_b, o2_ne_b, o2_idx_t0, o2_idx_t1, o1_len_scr, o1_len_t, o1_len_l, o1_len_s, o1_not_b, o1_tuple_l, o1_list_t, o1_list_l, o1_rev_t, o1_neg_i, o1_int_b, isi_s, isi_i, isi_b, isi_n, isi_t, isi_l, isTy, isNone_n, isNone_b, isNone_i, isNone_s, isNone_t, isNone_l, isBool_b, Bool.not_true, Bool.not_false, eq_self, if_true, if_false, Bool.false_eq_true, reduceIte, beq_self_eq_true, len_1lt2]) rfl (seq_ret (by simp only [evalSs, evalS, evalE, evalEs, evalIT, Res.bind_ok, Res.bind_bad, Res.bind_exc, Res.tame_ok, Fl.go_next, Fl.go_ret, Fl.fin_next, Fl.fin_ret, slot_some, List.getElem?_cons_zero, List.getElem?_cons_succ, List.set_cons_zero, List.set_cons_succ, put_nm, put_tu, puts_nil, puts_cons, chainK_t, chainK_f, truth_bool, truth_none, truth_int, truth_list, truth_tuple, truth_str, o2_add_i, o2_sub_i, o2_lt_i, o2_le_i, o2_gt_i, o2_ge_i, o2_is_n, o2_is_b, o2_isnot_n, o2_isnot_b, o2_eq_i, o2_eq_s, o2_eq_ns, o2_eq_b, o2_ne_b, o2_idx_t0, o2_idx_t1, o1_len_scr, o1_len_t, o1_len_l, o1_len_s, o1_not_b, o1_tuple_l, o1_list_t, o1_list_l, o1_rev_t, o1_neg_i, o1_int_b, isi_s, isi_i, isi_b, isi_n, isi_t, isi_l, isTy, isNone_n, isNone_b, isNone_i, isNone_s, isNone_t, isNone_l, isBool_b, Bool.not_true, Bool.not_false, eq_self, if_true, if_false, Bool.false_eq_true, reduceIte, beq_self_eq_true] <;> rfl)))
      | a :: b :: r, hf, nd =>
        have fm := fine_tuple.mp hf
        cases n with
        | zero =>
          have z : (dp == 0) = true := by rw [beq_iff_eq]; omega
          exact fin_of (seq_if_t (d := .bool true) (by simp only [evalSs, evalS, evalE, evalEs, evalIT, Res.bind_ok, Res.bind_bad, Res.bind_exc, Res.tame_ok, Fl.go_next, Fl.go_ret, Fl.fin_next, Fl.fin_ret, slot_some, List.getElem?_cons_zero, List.getElem?_cons_succ, List.set_cons_zero, List.set_cons_succ, put_nm, put_tu, puts_nil, puts_cons, chainK_t, chainK_f, truth_bool, truth_none, truth_int, truth_list, truth_tuple, truth_str, o2_add_i, o2_sub_i, o2_lt_i, o2_le_i, o2_gt_i, o2_ge_i, o2_is_n, o2_is_b, o2_isnot_n, o2_isnot_b, o2_eq_i, o2_eq_s, o2_eq_ns, o2_eq_b, o2_ne_b, o2_idx_t0, o2_idx_t1, o1_len_scr, o1_len_t, o1_len_l, o1_len_s, o1_not_b, o1_tuple_l, o1_list_t, o1_list_l, o1_rev_t, o1_neg_i, o1_int_b, isi_s, isi_i, isi_b, isi_n, isi_t, isi_l, isTy, isNone_n, isNone_b, isNone_i, isNone_s, isNone_t, isNone_l, isBool_b, Bool.not_true, Bool.not_false, eq_self, if_true, if_false, Bool.false_eq_true, reduceIte, beq_self_eq_true, len_lt2, z]) rfl (seq_ret (by simp only [evalSs, evalS, evalE, evalEs, evalIT, Res.bind_ok, Res.bind_bad, Res.bind_exc, Res.tame_ok, Fl.go_next, Fl.go_ret, Fl.fin_next, Fl.fin_ret, slot_some, List.getElem?_cons_zero, List.getElem?_cons_succ, List.set_cons_zero, List.set_cons_succ, put_nm, put_tu, puts_nil, puts_cons, chainK_t, chainK_f, truth_bool, truth_none, truth_int, truth_list, truth_tuple, truth_str, o2_add_i, o2_sub_i, o2_lt_i, o2_le_i, o2_gt_i, o2_ge_i, o2_is_n, o2_is_b, o2_isnot_n, o2_isnot_b, o2_eq_i, o2_eq_s, o2_eq_ns, o2_eq_b, o2_ne_b, o2_idx_t0, o2_idx_t1, o1_len_scr, o1_len_t, o1_len_l, o1_len_s, o1_not_b, o1_tuple_l, o1_list_t, o1_list_l, o1_rev_t, o1_neg_i, o1_int_b, isi_s, isi_i, isi_b, isi_n, isi_t, isi_l, isTy, isNone_n, isNone_b, isNone_i, isNone_s, isNone_t, isNone_l, isBool_b, Bool.not_true, Bool.not_false, eq_self, if_true, if_false, Bool.false_eq_true, reduceIte, beq_self_eq_true] <;> rfl)))
        | succ n =>
          have z : (dp == 0) = false := beq_eq_false_iff_ne.mpr (by omega)
          cases a with
          | str w =>
            show (evalSs ρ _ _).bind Fl.fin = .ok (.bool (questT (isQuest n) w (b :: r)))
            refine fin_of ((seq_if_f (d := .bool false) (by simp only [evalSs, evalS, evalE, evalEs, evalIT, Res.bind_ok, Res.bind_bad, Res.bind_exc, Res.tame_ok, Fl.go_next, Fl.go_ret, Fl.fin_next, Fl.fin_ret, slot_some, List.getElem?_cons_zero, List.getElem?_cons_succ, List.set_cons_zero, List.set_cons_succ, put_nm, put_tu, puts_nil, puts_cons, chainK_t, chainK_f, truth_bool, truth_none, truth_int, truth_list, truth_tuple, truth_str, o2_add_i, o2_sub_i, o2_lt_i, o2_le_i, o2_gt_i, o2_ge_i, o2_is_n, o2_is_b, o2_isnot_n, o2_isnot_b, o2_eq_i, o2_eq_s, o2_eq_ns, o2_eq_b, o2_ne_b, o2_idx_t0, o2_idx_t1, o1_len_scr, o1_len_t, o1_len_l, o1_len_s, o1_not_b, o1_tuple_l, o1_list_t, o1_list_l, o1_rev_t, o1_neg_i, o1_int_b, isi_s, isi_i, isi_b, isi_n, isi_t, isi_l, isTy, isNone_n, isNone_b, isNone_i, isNone_s, isNone_t, isNone_l, isBool_b, Bool.not_true, Bool.not_false, eq_self, if_true, if_false, Bool.false_eq_true, reduceIte, beq_self_eq_true, len_lt2, z]) rfl rfl).trans (seq_next (e := [some (.tuple (.str w :: b :: r)), some (.int dp), none, none, some (.str w), some (.tuple (b :: r)), none, none]) (by simp only [evalSs, evalS, evalE, evalEs, evalIT, Res.bind_ok, Res.bind_bad, Res.bind_exc, Res.tame_ok, Fl.go_next, Fl.go_ret, Fl.fin_next, Fl.fin_ret, slot_some, List.getElem?_cons_zero, List.getElem?_cons_succ, List.set_cons_zero, List.set_cons_succ, put_nm, put_tu, puts_nil, puts_cons, chainK_t, chainK_f, truth_bool, truth_none, truth_int, truth_list, truth_tuple, truth_str, o2_add_i, o2_sub_i, o2_lt_i, o2_le_i, o2_gt_i, o2_ge_i, o2_is_n, o2_is_b, o2_isnot_n, o2_isnot_b, o2_eq_i, o2_eq_s, o2_eq_ns, o2_eq_b, o2_ne_b, o2_idx_t0, o2_idx_t1, o1_len_scr, o1_len_t, o1_len_l, o1_len_s, o1_not_b, o1_tuple_l, o1_list_t, o1_list_l, o1_rev_t, o1_neg_i, o1_int_b, isi_s, isi_i, isi_b, isi_n, isi_t, isi_l, isTy, isNone_n, isNone_b, isNone_i, isNone_s, isNone_t, isNone_l, isBool_b, Bool.not_true, Bool.not_false, eq_self, if_true, if_false, Bool.false_eq_true, reduceIte, beq_self_eq_true, cut_1]) ?_))
            have frest : fine 1000 (.tuple (b :: r)) = true := by
              rw [fine_tuple]
              have := fm.1
              simp only [List.length_cons] at this ⊢
              exact ⟨by omega, fun d hd => fm.2 d (List.mem_cons_of_mem _ hd)⟩
            have fb : fine 1000 b = true := fm.2 b (by simp)
            have gv : ∀ o2 o3 o6 o7 : Option D, evalE ρ (.var 5) [some (.tuple (.str w :: b :: r)), some (.int dp), o2, o3, some (.str w), some (.tuple (b :: r)), o6, o7] = .ok (.tuple (b :: r)) := fun o2 o3 o6 o7 => by simp only [evalSs, evalS, evalE, evalEs, evalIT, Res.bind_ok, Res.bind_bad, Res.bind_exc, Res.tame_ok, Fl.go_next, Fl.go_ret, Fl.fin_next, Fl.fin_ret, slot_some, List.getElem?_cons_zero, List.getElem?_cons_succ, List.set_cons_zero, List.set_cons_succ, put_nm, put_tu, puts_nil, puts_cons, chainK_t, chainK_f, truth_bool, truth_none, truth_int, truth_list, truth_tuple, truth_str, o2_add_i, o2_sub_i, o2_lt_i, o2_le_i, o2_gt_i, o2_ge_i, o2_is_n, o2_is_b, o2_isnot_n, o2_isnot_b, o2_eq_i, o2_eq_s, o2_eq_ns, o2_eq_b, o2_ne_b, o2_idx_t0, o2_idx_t1, o1_len_scr, o1_len_t, o1_len_l, o1_len_s, o1_not_b, o1_tuple_l, o1_list_t, o1_list_l, o1_rev_t, o1_neg_i, o1_int_b, isi_s, isi_i, isi_b, isi_n, isi_t, isi_l, isTy, isNone_n, isNone_b, isNone_i, isNone_s, isNone_t, isNone_l, isBool_b, Bool.not_true, Bool.not_false, eq_self, if_true, if_false, Bool.false_eq_true, reduceIte, beq_self_eq_true]
            have gw : ∀ o2 o3 o6 o7 : Option D, evalE ρ (.var 4) [some (.tuple (.str w :: b :: r)), some (.int dp), o2, o3, some (.str w), some (.tuple (b :: r)), o6, o7] = .ok (.str w) := fun o2 o3 o6 o7 => by simp only [evalSs, evalS, evalE, evalEs, evalIT, Res.bind_ok, Res.bind_bad, Res.bind_exc, Res.tame_ok, Fl.go_next, Fl.go_ret, Fl.fin_next, Fl.fin_ret, slot_some, List.getElem?_cons_zero, List.getElem?_cons_succ, List.set_cons_zero, List.set_cons_succ, put_nm, put_tu, puts_nil, puts_cons, chainK_t, chainK_f, truth_bool, truth_none, truth_int, truth_list, truth_tuple, truth_str, o2_add_i, o2_sub_i, o2_lt_i, o2_le_i, o2_gt_i, o2_ge_i, o2_is_n, o2_is_b, o2_isnot_n, o2_isnot_b, o2_eq_i, o2_eq_s, o2_eq_ns, o2_eq_b, o2_ne_b, o2_idx_t0, o2_idx_t1, o1_len_scr, o1_len_t, o1_len_l, o1_len_s, o1_not_b, o1_tuple_l, o1_list_t, o1_list_l, o1_rev_t, o1_neg_i, o1_int_b, isi_s, isi_i, isi_b, isi_n, isi_t, isi_l, isTy, isNone_n, isNone_b, isNone_i, isNone_s, isNone_t, isNone_l, isBool_b, Bool.not_true, Bool.not_false, eq_self, if_true, if_false, Bool.false_eq_true, reduceIte, beq_self_eq_true]
            refine seq_if (o2_is_s (gw none none none none)) (fun t => ?_) fun f => ?_
            · have e1 : questT (isQuest n) w (b :: r) = only isName (b :: r) := by simp only [questT, t, if_true]
              rw [e1]
              exact ret_b (ret_only (f := isName) (gv none none none none) fun a ea => by
                have : b = a := by cases ea; rfl
                subst this
                exact call1 (idx_at (i := 0) (gv none none none none) rfl) (hN b fb)) rfl
            · refine (manyq_made ρ _ _ _ _ _ _ _).trans (pub_ret ?_)
              have e1 : questT (isQuest n) w (b :: r) = (decide (manyQ w ≤ (b :: r).length) && ((b :: r).take (manyQ w)).all (isQuest n) && partsOk w ((b :: r).drop (manyQ w))) := by simp only [questT, f, if_false, Bool.false_eq_true]
              rw [e1]
              have hlk : lookD w manyKv = (lookN w manyT).map fun n => .int n := look_kv w manyT
              have ik : isKeyed manyKv = true := rfl
              have ni : op2 .notin (.str w) (.dict manyKv) = .ok (.bool (!(lookN w manyT).isSome)) := by
                show (if isKeyed manyKv then Res.ok (lookD w manyKv).isSome else .bad).bind (fun t => Res.ok (PyData.bool (!t))) = _
                rw [if_pos ik, hlk, Option.isSome_map]; rfl
              have hni : evalE ρ (.o2 .notin (.var 4) (.var 2)) [some (.tuple (.str w :: b :: r)), some (.int dp), some (.dict manyKv), some (.str w_minus), some (.str w), some (.tuple (b :: r)), none, none] = .ok (.bool (!(lookN w manyT).isSome)) := by simp only [evalSs, evalS, evalE, evalEs, evalIT, Res.bind_ok, Res.bind_bad, Res.bind_exc, Res.tame_ok, Fl.go_next, Fl.go_ret, Fl.fin_next, Fl.fin_ret, slot_some, List.getElem?_cons_zero, List.getElem?_cons_succ, List.set_cons_zero, List.set_cons_succ, put_nm, put_tu, puts_nil, puts_cons, chainK_t, chainK_f, truth_bool, truth_none, truth_int, truth_list, truth_tuple, truth_str, o2_add_i, o2_sub_i, o2_lt_i, o2_le_i, o2_gt_i, o2_ge_i, o2_is_n, o2_is_b, o2_isnot_n, o2_isnot_b, o2_eq_i, o2_eq_s, o2_eq_ns, o2_eq_b, o2_ne_b, o2_idx_t0, o2_idx_t1, o1_len_scr, o1_len_t, o1_len_l, o1_len_s, o1_not_b, o1_tuple_l, o1_list_t, o1_list_l, o1_rev_t, o1_neg_i, o1_int_b, isi_s, isi_i, isi_b, isi_n, isi_t, isi_l, isTy, isNone_n, isNone_b, isNone_i, isNone_s, isNone_t, isNone_l, isBool_b, Bool.not_true, Bool.not_false, eq_self, if_true, if_false, Bool.false_eq_true, reduceIte, beq_self_eq_true, ni]
              cases q : lookN w manyT with
              | none =>
                rw [q] at hni
                rw [parts_none q, Bool.and_false]
                exact seq_if (or_b (x := true) (y := true) hni fun z => nomatch z) (fun _ => ret_b (x := false) (by simp only [evalSs, evalS, evalE, evalEs, evalIT, Res.bind_ok, Res.bind_bad, Res.bind_exc, Res.tame_ok, Fl.go_next, Fl.go_ret, Fl.fin_next, Fl.fin_ret, slot_some, List.getElem?_cons_zero, List.getElem?_cons_succ, List.set_cons_zero, List.set_cons_succ, put_nm, put_tu, puts_nil, puts_cons, chainK_t, chainK_f, truth_bool, truth_none, truth_int, truth_list, truth_tuple, truth_str, o2_add_i, o2_sub_i, o2_lt_i, o2_le_i, o2_gt_i, o2_ge_i, o2_is_n, o2_is_b, o2_isnot_n, o2_isnot_b, o2_eq_i, o2_eq_s, o2_eq_ns, o2_eq_b, o2_ne_b, o2_idx_t0, o2_idx_t1, o1_len_scr, o1_len_t, o1_len_l, o1_len_s, o1_not_b, o1_tuple_l, o1_list_t, o1_list_l, o1_rev_t, o1_neg_i, o1_int_b, isi_s, isi_i, isi_b, isi_n, isi_t, isi_l, isTy, isNone_n, isNone_b, isNone_i, isNone_s, isNone_t, isNone_l, isBool_b, Bool.not_true, Bool.not_false, eq_self, if_true, if_false, Bool.false_eq_true, reduceIte, beq_self_eq_true]) rfl) fun z => nomatch z
              | some j =>
                rw [q] at hni
                have hj := look_mem q
                have ix : op2 .idx (.dict manyKv) (.str w) = .ok (.int (j : Nat)) := by
                  show (match lookD w manyKv with | some d => Res.ok d | none => .bad) = _
                  rw [hlk, q]; rfl
                have hne : evalE ρ (.o2 .ne (.o1 .len (.var 5)) (.o2 .idx (.var 2) (.var 4))) [some (.tuple (.str w :: b :: r)), some (.int dp), some (.dict manyKv), some (.str w_minus), some (.str w), some (.tuple (b :: r)), none, none] = .ok (.bool (!decide ((b :: r).length = j))) := by
                  simp only [evalSs, evalS, evalE, evalEs, evalIT, Res.bind_ok, Res.bind_bad, Res.bind_exc, Res.tame_ok, Fl.go_next, Fl.go_ret, Fl.fin_next, Fl.fin_ret, slot_some, List.getElem?_cons_zero, List.getElem?_cons_succ, List.set_cons_zero, List.set_cons_succ, put_nm, put_tu, puts_nil, puts_cons, chainK_t, chainK_f, truth_bool, truth_none, truth_int, truth_list, truth_tuple, truth_str, o2_add_i, o2_sub_i, o2_lt_i, o2_le_i, o2_gt_i, o2_ge_i, o2_is_n, o2_is_b, o2_isnot_n, o2_isnot_b, o2_eq_i, o2_eq_s, o2_eq_ns, o2_eq_b, o2_ne_b, o2_idx_t0, o2_idx_t1, o1_len_scr, o1_len_t, o1_len_l, o1_len_s, o1_not_b, o1_tuple_l, o1_list_t, o1_list_l, o1_rev_t, o1_neg_i, o1_int_b, isi_s, isi_i, isi_b, isi_n, isi_t, isi_l, isTy, isNone_n, isNone_b, isNone_i, isNone_s, isNone_t, isNone_l, isBool_b, Bool.not_true, Bool.not_false, eq_self, if_true, if_false, Bool.false_eq_true, reduceIte, beq_self_eq_true, ix, o2_ne_i, int_eq]
                by_cases hl : (b :: r).length = j
                · rw [decide_eq_true hl] at hne
                  have q0 := call2 (f := F.law_is_quest) (idx_at (i := 0) (gv (some (.dict manyKv)) (some (.str w_minus)) none none) rfl) (show evalE ρ (.o2 .sub (.var 1) (.int 1)) [some (.tuple (.str w :: b :: r)), some (.int dp), some (.dict manyKv), some (.str w_minus), some (.str w), some (.tuple (b :: r)), none, none] = .ok (.int (dp - 1)) by simp only [evalSs, evalS, evalE, evalEs, evalIT, Res.bind_ok, Res.bind_bad, Res.bind_exc, Res.tame_ok, Fl.go_next, Fl.go_ret, Fl.fin_next, Fl.fin_ret, slot_some, List.getElem?_cons_zero, List.getElem?_cons_succ, List.set_cons_zero, List.set_cons_succ, put_nm, put_tu, puts_nil, puts_cons, chainK_t, chainK_f, truth_bool, truth_none, truth_int, truth_list, truth_tuple, truth_str, o2_add_i, o2_sub_i, o2_lt_i, o2_le_i, o2_gt_i, o2_ge_i, o2_is_n, o2_is_b, o2_isnot_n, o2_isnot_b, o2_eq_i, o2_eq_s, o2_eq_ns, o2_eq_b, o2_ne_b, o2_idx_t0, o2_idx_t1, o1_len_scr, o1_len_t, o1_len_l, o1_len_s, o1_not_b, o1_tuple_l, o1_list_t, o1_list_l, o1_rev_t, o1_neg_i, o1_int_b, isi_s, isi_i, isi_b, isi_n, isi_t, isi_l, isTy, isNone_n, isNone_b, isNone_i, isNone_s, isNone_t, isNone_l, isBool_b, Bool.not_true, Bool.not_false, eq_self, if_true, if_false, Bool.false_eq_true, reduceIte, beq_self_eq_true]) (ih n rfl b fb)
                  cases hq : isQuest n b with
                  | false =>
                    rw [hq] at q0
                    have : ((b :: r).take (manyQ w)).all (isQuest n) = false := by
                      have m1 : manyQ w = 1 ∨ manyQ w = 2 := by unfold manyQ; split <;> simp
                      rcases m1 with m | m <;> rw [m] <;> simp [hq]
                    rw [this, Bool.and_false, Bool.false_and]
                    exact seq_if (or_b (x := false) (y := true) hni fun _ => or_b (x := false) (y := true) hne fun _ => not_b q0) (fun _ => ret_b (x := false) (by simp only [evalSs, evalS, evalE, evalEs, evalIT, Res.bind_ok, Res.bind_bad, Res.bind_exc, Res.tame_ok, Fl.go_next, Fl.go_ret, Fl.fin_next, Fl.fin_ret, slot_some, List.getElem?_cons_zero, List.getElem?_cons_succ, List.set_cons_zero, List.set_cons_succ, put_nm, put_tu, puts_nil, puts_cons, chainK_t, chainK_f, truth_bool, truth_none, truth_int, truth_list, truth_tuple, truth_str, o2_add_i, o2_sub_i, o2_lt_i, o2_le_i, o2_gt_i, o2_ge_i, o2_is_n, o2_is_b, o2_isnot_n, o2_isnot_b, o2_eq_i, o2_eq_s, o2_eq_ns, o2_eq_b, o2_ne_b, o2_idx_t0, o2_idx_t1, o1_len_scr, o1_len_t, o1_len_l, o1_len_s, o1_not_b, o1_tuple_l, o1_list_t, o1_list_l, o1_rev_t, o1_neg_i, o1_int_b, isi_s, isi_i, isi_b, isi_n, isi_t, isi_l, isTy, isNone_n, isNone_b, isNone_i, isNone_s, isNone_t, isNone_l, isBool_b, Bool.not_true, Bool.not_false, eq_self, if_true, if_false, Bool.false_eq_true, reduceIte, beq_self_eq_true]) rfl) fun z => nomatch z
                  | true =>
                    rw [hq] at q0
                    refine seq_if (or_b (x := false) (y := false) hni fun _ => or_b (x := false) (y := false) hne fun _ => not_b q0) (fun z => nomatch z) fun _ => ?_
                    refine seq_if (x := decide (w ∈ twos)) (in_tup (gw _ _ _ _) (ws := twos) (by simp only [evalSs, evalS, evalE, evalEs, evalIT, Res.bind_ok, Res.bind_bad, Res.bind_exc, Res.tame_ok, Fl.go_next, Fl.go_ret, Fl.fin_next, Fl.fin_ret, slot_some, List.getElem?_cons_zero, List.getElem?_cons_succ, List.set_cons_zero, List.set_cons_succ, put_nm, put_tu, puts_nil, puts_cons, chainK_t, chainK_f, truth_bool, truth_none, truth_int, truth_list, truth_tuple, truth_str, o2_add_i, o2_sub_i, o2_lt_i, o2_le_i, o2_gt_i, o2_ge_i, o2_is_n, o2_is_b, o2_isnot_n, o2_isnot_b, o2_eq_i, o2_eq_s, o2_eq_ns, o2_eq_b, o2_ne_b, o2_idx_t0, o2_idx_t1, o1_len_scr, o1_len_t, o1_len_l, o1_len_s, o1_not_b, o1_tuple_l, o1_list_t, o1_list_l, o1_rev_t, o1_neg_i, o1_int_b, isi_s, isi_i, isi_b, isi_n, isi_t, isi_l, isTy, isNone_n, isNone_b, isNone_i, isNone_s, isNone_t, isNone_l, isBool_b, Bool.not_true, Bool.not_false, eq_self, if_true, if_false, Bool.false_eq_true, reduceIte, beq_self_eq_true] <;> rfl) (by simp [noDict])) (fun t2 => ?_) fun f2 => ?_
                    · have hw2 : w ∈ twos := of_decide_eq_true t2
                      have m2 : manyQ w = 2 := by unfold manyQ; rw [if_pos t2]
                      rw [m2]
                      rcases two_words hj hw2 with ⟨hw, rfl⟩ | ⟨hw, rfl⟩
                      · obtain ⟨b', c, p, er⟩ := (len3 (b :: r)).mp hl
                        cases er
                        have fc : fine 1000 c = true := fm.2 c (by simp)
                        have fp : fine 1000 p = true := fm.2 p (by simp)
                        have po : partsOk w [p] = pairsOk p := by
                          rcases hw with rfl | rfl
                          · rw [po_join]; rfl
                          · rw [po_left]; rfl
                        have gl : ∀ o6 o7 : Option D, evalE ρ (.o2 .eq (.o1 .len (.var 5)) (.int 3)) [some (.tuple [.str w, b, c, p]), some (.int dp), some (.dict manyKv), some (.str w_minus), some (.str w), some (.tuple [b, c, p]), o6, o7] = .ok (.bool true) := fun o6 o7 => by simp only [evalSs, evalS, evalE, evalEs, evalIT, Res.bind_ok, Res.bind_bad, Res.bind_exc, Res.tame_ok, Fl.go_next, Fl.go_ret, Fl.fin_next, Fl.fin_ret, slot_some, List.getElem?_cons_zero, List.getElem?_cons_succ, List.set_cons_zero, List.set_cons_succ, put_nm, put_tu, puts_nil, puts_cons, chainK_t, chainK_f, truth_bool, truth_none, truth_int, truth_list, truth_tuple, truth_str, o2_add_i, o2_sub_i, o2_lt_i, o2_le_i, o2_gt_i, o2_ge_i, o2_is_n, o2_is_b, o2_isnot_n, o2_isnot_b, o2_eq_i, o2_eq_s, o2_eq_ns, o2_eq_b, o2_ne_b, o2_idx_t0, o2_idx_t1, o1_len_scr, o1_len_t, o1_len_l, o1_len_s, o1_not_b, o1_tuple_l, o1_list_t, o1_list_l, o1_rev_t, o1_neg_i, o1_int_b, isi_s, isi_i, isi_b, isi_n, isi_t, isi_l, isTy, isNone_n, isNone_b, isNone_i, isNone_s, isNone_t, isNone_l, isBool_b, Bool.not_true, Bool.not_false, eq_self, if_true, if_false, Bool.false_eq_true, reduceIte, beq_self_eq_true] <;> rfl
                        have qc := call2 (f := F.law_is_quest) (idx_at (i := 1) (gv (some (.dict manyKv)) (some (.str w_minus)) none none) rfl) (show evalE ρ (.o2 .sub (.var 1) (.int 1)) [some (.tuple [.str w, b, c, p]), some (.int dp), some (.dict manyKv), some (.str w_minus), some (.str w), some (.tuple [b, c, p]), none, none] = .ok (.int (dp - 1)) by simp only [evalSs, evalS, evalE, evalEs, evalIT, Res.bind_ok, Res.bind_bad, Res.bind_exc, Res.tame_ok, Fl.go_next, Fl.go_ret, Fl.fin_next, Fl.fin_ret, slot_some, List.getElem?_cons_zero, List.getElem?_cons_succ, List.set_cons_zero, List.set_cons_succ, put_nm, put_tu, puts_nil, puts_cons, chainK_t, chainK_f, truth_bool, truth_none, truth_int, truth_list, truth_tuple, truth_str, o2_add_i, o2_sub_i, o2_lt_i, o2_le_i, o2_gt_i, o2_ge_i, o2_is_n, o2_is_b, o2_isnot_n, o2_isnot_b, o2_eq_i, o2_eq_s, o2_eq_ns, o2_eq_b, o2_ne_b, o2_idx_t0, o2_idx_t1, o1_len_scr, o1_len_t, o1_len_l, o1_len_s, o1_not_b, o1_tuple_l, o1_list_t, o1_list_l, o1_rev_t, o1_neg_i, o1_int_b, isi_s, isi_i, isi_b, isi_n, isi_t, isi_l, isTy, isNone_n, isNone_b, isNone_i, isNone_s, isNone_t, isNone_l, isBool_b, Bool.not_true, Bool.not_false, eq_self, if_true, if_false, Bool.false_eq_true, reduceIte, beq_self_eq_true]) (ih n rfl c fc)
                        have i2 : evalE ρ (.o2 .idx (.var 5) (.int 2)) [some (.tuple [.str w, b, c, p]), some (.int dp), some (.dict manyKv), some (.str w_minus), some (.str w), some (.tuple [b, c, p]), none, none] = .ok p := idx_at (i := 2) (gv _ _ _ _) rfl
                        have qp := call1 (f := F.law_are_pairs) i2 (hP p fp)
                        have goal : (decide (2 ≤ ([b, c, p] : List D).length) && (([b, c, p] : List D).take 2).all (isQuest n) && partsOk w (([b, c, p] : List D).drop 2)) = (isQuest n c && pairsOk p) := by
                          show (decide (2 ≤ 3) && ([b, c] : List D).all (isQuest n) && partsOk w [p]) = _
                          rw [po]
                          simp [hq]
                        rw [goal]
                        cases hqc : isQuest n c with
                        | false =>
                          rw [hqc] at qc
                          exact seq_if (or_b (x := true) (y := true) (not_b qc) fun z => nomatch z) (fun _ => ret_b (x := false) (by simp only [evalSs, evalS, evalE, evalEs, evalIT, Res.bind_ok, Res.bind_bad, Res.bind_exc, Res.tame_ok, Fl.go_next, Fl.go_ret, Fl.fin_next, Fl.fin_ret, slot_some, List.getElem?_cons_zero, List.getElem?_cons_succ, List.set_cons_zero, List.set_cons_succ, put_nm, put_tu, puts_nil, puts_cons, chainK_t, chainK_f, truth_bool, truth_none, truth_int, truth_list, truth_tuple, truth_str, o2_add_i, o2_sub_i, o2_lt_i, o2_le_i, o2_gt_i, o2_ge_i, o2_is_n, o2_is_b, o2_isnot_n, o2_isnot_b, o2_eq_i, o2_eq_s, o2_eq_ns, o2_eq_b, o2_ne_b, o2_idx_t0, o2_idx_t1, o1_len_scr, o1_len_t, o1_len_l, o1_len_s, o1_not_b, o1_tuple_l, o1_list_t, o1_list_l, o1_rev_t, o1_neg_i, o1_int_b, isi_s, isi_i, isi_b, isi_n, isi_t, isi_l, isTy, isNone_n, isNone_b, isNone_i, isNone_s, isNone_t, isNone_l, isBool_b, Bool.not_true, Bool.not_false, eq_self, if_true, if_false, Bool.false_eq_true, reduceIte, beq_self_eq_true]) rfl) fun z => nomatch z
                        | true =>
                          rw [hqc] at qc
                          cases p with
                          | tuple ps =>
                            cases hpl : pairsL (.tuple ps) with
                            | false =>
                              rw [hpl] at qp
                              exact seq_if (or_b (x := false) (y := true) (not_b qc) fun _ => and_b (x := true) (y := true) (gl none none) fun _ => not_b qp) (fun _ => ret_b (x := false) (by simp only [evalSs, evalS, evalE, evalEs, evalIT, Res.bind_ok, Res.bind_bad, Res.bind_exc, Res.tame_ok, Fl.go_next, Fl.go_ret, Fl.fin_next, Fl.fin_ret, slot_some, List.getElem?_cons_zero, List.getElem?_cons_succ, List.set_cons_zero, List.set_cons_succ, put_nm, put_tu, puts_nil, puts_cons, chainK_t, chainK_f, truth_bool, truth_none, truth_int, truth_list, truth_tuple, truth_str, o2_add_i, o2_sub_i, o2_lt_i, o2_le_i, o2_gt_i, o2_ge_i, o2_is_n, o2_is_b, o2_isnot_n, o2_isnot_b, o2_eq_i, o2_eq_s, o2_eq_ns, o2_eq_b, o2_ne_b, o2_idx_t0, o2_idx_t1, o1_len_scr, o1_len_t, o1_len_l, o1_len_s, o1_not_b, o1_tuple_l, o1_list_t, o1_list_l, o1_rev_t, o1_neg_i, o1_int_b, isi_s, isi_i, isi_b, isi_n, isi_t, isi_l, isTy, isNone_n, isNone_b, isNone_i, isNone_s, isNone_t, isNone_l, isBool_b, Bool.not_true, Bool.not_false, eq_self, if_true, if_false, Bool.false_eq_true, reduceIte, beq_self_eq_true]) (by rw [pairs_two, hpl]; rfl)) fun z => nomatch z
                            | true =>
                              rw [hpl] at qp
                              have nps : noDicts ps = true := by simpa [noDict] using fine_noDict _ fp
                              have hall : ps.all pairL = true := by
                                simp only [pairsL, Bool.and_eq_true] at hpl
                                exact hpl.1.2
                              have sh : ∀ d ∈ ps, ∃ x y, d = .tuple [x, .str y] := fun d hd => by
                                have hp := List.all_eq_true.mp hall d hd
                                unfold pairL at hp
                                simp only [Bool.and_eq_true] at hp
                                obtain ⟨x, y, rfl⟩ := tup2_shape hp.1.1
                                cases y with
                                | str y => exact ⟨x, y, rfl⟩
                                | _ => simp [at1, isTy] at hp
                              have fp1 : fine 1000 (.tuple (ps.map at1)) = true := (map_fine fp (List.all_eq_true.mpr fun d hd => by obtain ⟨x, y, rfl⟩ := sh d hd; rfl)).2
                              have n1 : noDicts (ps.map at1) = true := by simpa [noDict] using fine_noDict _ fp1
                              refine seq_if (or_b (x := false) (y := false) (not_b qc) fun _ => and_b (x := true) (y := false) (gl none none) fun _ => not_b qp) (fun z => nomatch z) fun _ => ?_
                              have hc2 : evalE ρ c_law_is_quest_2 [some (.tuple [.str w, b, c, .tuple ps]), some (.int dp), some (.dict manyKv), some (.str w_minus), some (.str w), some (.tuple [b, c, .tuple ps]), none, none] = .ok (.list (ps.map at1)) := by
                                unfold c_law_is_quest_2
                                refine comp_nm (by simp only [evalIT]; rw [i2]; rfl) fun d hd => ?_
                                obtain ⟨x, y, rfl⟩ := sh d hd
                                simp only [evalSs, evalS, evalE, evalEs, evalIT, Res.bind_ok, Res.bind_bad, Res.bind_exc, Res.tame_ok, Fl.go_next, Fl.go_ret, Fl.fin_next, Fl.fin_ret, slot_some, List.getElem?_cons_zero, List.getElem?_cons_succ, List.set_cons_zero, List.set_cons_succ, put_nm, put_tu, puts_nil, puts_cons, chainK_t, chainK_f, truth_bool, truth_none, truth_int, truth_list, truth_tuple, truth_str, o2_add_i, o2_sub_i, o2_lt_i, o2_le_i, o2_gt_i, o2_ge_i, o2_is_n, o2_is_b, o2_isnot_n, o2_isnot_b, o2_eq_i, o2_eq_s, o2_eq_ns, o2_eq_b, o2_ne_b, o2_idx_t0, o2_idx_t1, o1_len_scr, o1_len_t, o1_len_l, o1_len_s, o1_not_b, o1_tuple_l, o1_list_t, o1_list_l, o1_rev_t, o1_neg_i, o1_int_b, isi_s, isi_i, isi_b, isi_n, isi_t, isi_l, isTy, isNone_n, isNone_b, isNone_i, isNone_s, isNone_t, isNone_l, isBool_b, Bool.not_true, Bool.not_false, eq_self, if_true, if_false, Bool.false_eq_true, reduceIte, beq_self_eq_true, at1]
                              have hif : evalE ρ (.ifE (.o2 .eq (.o1 .len (.var 5)) (.int 3)) c_law_is_quest_2 (.lst .nil)) [some (.tuple [.str w, b, c, .tuple ps]), some (.int dp), some (.dict manyKv), some (.str w_minus), some (.str w), some (.tuple [b, c, .tuple ps]), none, none] = .ok (.list (ps.map at1)) := by
                                have g1 := gl none none
                                rw [evalE, g1]
                                exact hc2
                              refine (seq_asg hif).trans ?_
                              have hc3 : evalE ρ c_law_is_quest_3 [some (.tuple [.str w, b, c, .tuple ps]), some (.int dp), some (.dict manyKv), some (.str w_minus), some (.str w), some (.tuple [b, c, .tuple ps]), some (.list (ps.map at1)), none] = .ok (.list (((ps.map at1).filter fun d => !isName d).map id)) := by
                                unfold c_law_is_quest_3
                                refine compIf_any (by simp only [evalSs, evalS, evalE, evalEs, evalIT, Res.bind_ok, Res.bind_bad, Res.bind_exc, Res.tame_ok, Fl.go_next, Fl.go_ret, Fl.fin_next, Fl.fin_ret, slot_some, List.getElem?_cons_zero, List.getElem?_cons_succ, List.set_cons_zero, List.set_cons_succ, put_nm, put_tu, puts_nil, puts_cons, chainK_t, chainK_f, truth_bool, truth_none, truth_int, truth_list, truth_tuple, truth_str, o2_add_i, o2_sub_i, o2_lt_i, o2_le_i, o2_gt_i, o2_ge_i, o2_is_n, o2_is_b, o2_isnot_n, o2_isnot_b, o2_eq_i, o2_eq_s, o2_eq_ns, o2_eq_b, o2_ne_b, o2_idx_t0, o2_idx_t1, o1_len_scr, o1_len_t, o1_len_l, o1_len_s, o1_not_b, o1_tuple_l, o1_list_t, o1_list_l, o1_rev_t, o1_neg_i, o1_int_b, isi_s, isi_i, isi_b, isi_n, isi_t, isi_l, isTy, isNone_n, isNone_b, isNone_i, isNone_s, isNone_t, isNone_l, isBool_b, Bool.not_true, Bool.not_false, eq_self, if_true, if_false, Bool.false_eq_true, reduceIte, beq_self_eq_true, itemsOf]) fun d hd => ?_
                                have := hN d ((fine_tuple.mp fp1).2 d hd)
                                exact ⟨_, by simp only [evalSs, evalS, evalE, evalEs, evalIT, Res.bind_ok, Res.bind_bad, Res.bind_exc, Res.tame_ok, Fl.go_next, Fl.go_ret, Fl.fin_next, Fl.fin_ret, slot_some, List.getElem?_cons_zero, List.getElem?_cons_succ, List.set_cons_zero, List.set_cons_succ, put_nm, put_tu, puts_nil, puts_cons, chainK_t, chainK_f, truth_bool, truth_none, truth_int, truth_list, truth_tuple, truth_str, o2_add_i, o2_sub_i, o2_lt_i, o2_le_i, o2_gt_i, o2_ge_i, o2_is_n, o2_is_b, o2_isnot_n, o2_isnot_b, o2_eq_i, o2_eq_s, o2_eq_ns, o2_eq_b, o2_ne_b, o2_idx_t0, o2_idx_t1, o1_len_scr, o1_len_t, o1_len_l, o1_len_s, o1_not_b, o1_tuple_l, o1_list_t, o1_list_l, o1_rev_t, o1_neg_i, o1_int_b, isi_s, isi_i, isi_b, isi_n, isi_t, isi_l, isTy, isNone_n, isNone_b, isNone_i, isNone_s, isNone_t, isNone_l, isBool_b, Bool.not_true, Bool.not_false, eq_self, if_true, if_false, Bool.false_eq_true, reduceIte, beq_self_eq_true] <;> rfl, by simp only [evalSs, evalS, evalE, evalEs, evalIT, Res.bind_ok, Res.bind_bad, Res.bind_exc, Res.tame_ok, Fl.go_next, Fl.go_ret, Fl.fin_next, Fl.fin_ret, slot_some, List.getElem?_cons_zero, List.getElem?_cons_succ, List.set_cons_zero, List.set_cons_succ, put_nm, put_tu, puts_nil, puts_cons, chainK_t, chainK_f, truth_bool, truth_none, truth_int, truth_list, truth_tuple, truth_str, o2_add_i, o2_sub_i, o2_lt_i, o2_le_i, o2_gt_i, o2_ge_i, o2_is_n, o2_is_b, o2_isnot_n, o2_isnot_b, o2_eq_i, o2_eq_s, o2_eq_ns, o2_eq_b, o2_ne_b, o2_idx_t0, o2_idx_t1, o1_len_scr, o1_len_t, o1_len_l, o1_len_s, o1_not_b, o1_tuple_l, o1_list_t, o1_list_l, o1_rev_t, o1_neg_i, o1_int_b, isi_s, isi_i, isi_b, isi_n, isi_t, isi_l, isTy, isNone_n, isNone_b, isNone_i, isNone_s, isNone_t, isNone_l, isBool_b, Bool.not_true, Bool.not_false, eq_self, if_true, if_false, Bool.false_eq_true, reduceIte, beq_self_eq_true, this], fun _ => by simp only [evalSs, evalS, evalE, evalEs, evalIT, Res.bind_ok, Res.bind_bad, Res.bind_exc, Res.tame_ok, Fl.go_next, Fl.go_ret, Fl.fin_next, Fl.fin_ret, slot_some, List.getElem?_cons_zero, List.getElem?_cons_succ, List.set_cons_zero, List.set_cons_succ, put_nm, put_tu, puts_nil, puts_cons, chainK_t, chainK_f, truth_bool, truth_none, truth_int, truth_list, truth_tuple, truth_str, o2_add_i, o2_sub_i, o2_lt_i, o2_le_i, o2_gt_i, o2_ge_i, o2_is_n, o2_is_b, o2_isnot_n, o2_isnot_b, o2_eq_i, o2_eq_s, o2_eq_ns, o2_eq_b, o2_ne_b, o2_idx_t0, o2_idx_t1, o1_len_scr, o1_len_t, o1_len_l, o1_len_s, o1_not_b, o1_tuple_l, o1_list_t, o1_list_l, o1_rev_t, o1_neg_i, o1_int_b, isi_s, isi_i, isi_b, isi_n, isi_t, isi_l, isTy, isNone_n, isNone_b, isNone_i, isNone_s, isNone_t, isNone_l, isBool_b, Bool.not_true, Bool.not_false, eq_self, if_true, if_false, Bool.false_eq_true, reduceIte, beq_self_eq_true] <;> rfl⟩
                              have nf : noDicts (((ps.map at1).filter fun d => !isName d).map id) = true := by
                                rw [List.map_id]
                                exact noDicts_of fun d hd => noDicts_mem n1 (List.mem_filter.mp hd).1
                              have em : (((ps.map at1).filter fun d => !isName d).map id).isEmpty = (ps.map at1).all isName := by rw [List.map_id]; exact filter_empty _ _
                              have he := eq_nil_l _ nf
                              rw [em] at he
                              refine ret_b (and_b (x := (ps.map at1).all isName) (y := (unlike ((ps.map at1).map strOf)).length == (ps.map at1).length) (by simp only [evalSs, evalS, evalE, evalEs, evalIT, Res.bind_ok, Res.bind_bad, Res.bind_exc, Res.tame_ok, Fl.go_next, Fl.go_ret, Fl.fin_next, Fl.fin_ret, slot_some, List.getElem?_cons_zero, List.getElem?_cons_succ, List.set_cons_zero, List.set_cons_succ, put_nm, put_tu, puts_nil, puts_cons, chainK_t, chainK_f, truth_bool, truth_none, truth_int, truth_list, truth_tuple, truth_str, o2_add_i, o2_sub_i, o2_lt_i, o2_le_i, o2_gt_i, o2_ge_i, o2_is_n, o2_is_b, o2_isnot_n, o2_isnot_b, o2_eq_i, o2_eq_s, o2_eq_ns, o2_eq_b, o2_ne_b, o2_idx_t0, o2_idx_t1, o1_len_scr, o1_len_t, o1_len_l, o1_len_s, o1_not_b, o1_tuple_l, o1_list_t, o1_list_l, o1_rev_t, o1_neg_i, o1_int_b, isi_s, isi_i, isi_b, isi_n, isi_t, isi_l, isTy, isNone_n, isNone_b, isNone_i, isNone_s, isNone_t, isNone_l, isBool_b, Bool.not_true, Bool.not_false, eq_self, if_true, if_false, Bool.false_eq_true, reduceIte, beq_self_eq_true, hc3, he]) fun ha => ?_) ?_
                              · have e1 : op1 .lenSet (.list (ps.map at1)) = .ok (.int (unlike ((ps.map at1).map strOf)).length) := lenSet_names ha (fine_tuple.mp fp1).1
                                simp only [evalSs, evalS, evalE, evalEs, evalIT, Res.bind_ok, Res.bind_bad, Res.bind_exc, Res.tame_ok, Fl.go_next, Fl.go_ret, Fl.fin_next, Fl.fin_ret, slot_some, List.getElem?_cons_zero, List.getElem?_cons_succ, List.set_cons_zero, List.set_cons_succ, put_nm, put_tu, puts_nil, puts_cons, chainK_t, chainK_f, truth_bool, truth_none, truth_int, truth_list, truth_tuple, truth_str, o2_add_i, o2_sub_i, o2_lt_i, o2_le_i, o2_gt_i, o2_ge_i, o2_is_n, o2_is_b, o2_isnot_n, o2_isnot_b, o2_eq_i, o2_eq_s, o2_eq_ns, o2_eq_b, o2_ne_b, o2_idx_t0, o2_idx_t1, o1_len_scr, o1_len_t, o1_len_l, o1_len_s, o1_not_b, o1_tuple_l, o1_list_t, o1_list_l, o1_rev_t, o1_neg_i, o1_int_b, isi_s, isi_i, isi_b, isi_n, isi_t, isi_l, isTy, isNone_n, isNone_b, isNone_i, isNone_s, isNone_t, isNone_l, isBool_b, Bool.not_true, Bool.not_false, eq_self, if_true, if_false, Bool.false_eq_true, reduceIte, beq_self_eq_true, e1, nat_beq]
                              · rw [pairs_two, hpl]; rfl
                          | _ =>
                            exact seq_if (or_b (x := false) (y := true) (not_b qc) fun _ => and_b (x := true) (y := true) (gl none none) fun _ => not_b (x := false) qp) (fun _ => ret_b (x := false) (by simp only [evalSs, evalS, evalE, evalEs, evalIT, Res.bind_ok, Res.bind_bad, Res.bind_exc, Res.tame_ok, Fl.go_next, Fl.go_ret, Fl.fin_next, Fl.fin_ret, slot_some, List.getElem?_cons_zero, List.getElem?_cons_succ, List.set_cons_zero, List.set_cons_succ, put_nm, put_tu, puts_nil, puts_cons, chainK_t, chainK_f, truth_bool, truth_none, truth_int, truth_list, truth_tuple, truth_str, o2_add_i, o2_sub_i, o2_lt_i, o2_le_i, o2_gt_i, o2_ge_i, o2_is_n, o2_is_b, o2_isnot_n, o2_isnot_b, o2_eq_i, o2_eq_s, o2_eq_ns, o2_eq_b, o2_ne_b, o2_idx_t0, o2_idx_t1, o1_len_scr, o1_len_t, o1_len_l, o1_len_s, o1_not_b, o1_tuple_l, o1_list_t, o1_list_l, o1_rev_t, o1_neg_i, o1_int_b, isi_s, isi_i, isi_b, isi_n, isi_t, isi_l, isTy, isNone_n, isNone_b, isNone_i, isNone_s, isNone_t, isNone_l, isBool_b, Bool.not_true, Bool.not_false, eq_self, if_true, if_false, Bool.false_eq_true, reduceIte, beq_self_eq_true]) rfl) fun z => nomatch z
                      · obtain ⟨b', c, er⟩ := (len2 (b :: r)).mp hl
                        cases er
                        have fc : fine 1000 c = true := fm.2 c (by simp)
                        have po : partsOk w [] = true := by
                          rcases hw with rfl | rfl
                          · rw [po_both]; rfl
                          · rw [po_minus]; rfl
                        have gl : ∀ o6 o7 : Option D, evalE ρ (.o2 .eq (.o1 .len (.var 5)) (.int 3)) [some (.tuple [.str w, b, c]), some (.int dp), some (.dict manyKv), some (.str w_minus), some (.str w), some (.tuple [b, c]), o6, o7] = .ok (.bool false) := fun o6 o7 => by simp only [evalSs, evalS, evalE, evalEs, evalIT, Res.bind_ok, Res.bind_bad, Res.bind_exc, Res.tame_ok, Fl.go_next, Fl.go_ret, Fl.fin_next, Fl.fin_ret, slot_some, List.getElem?_cons_zero, List.getElem?_cons_succ, List.set_cons_zero, List.set_cons_succ, put_nm, put_tu, puts_nil, puts_cons, chainK_t, chainK_f, truth_bool, truth_none, truth_int, truth_list, truth_tuple, truth_str, o2_add_i, o2_sub_i, o2_lt_i, o2_le_i, o2_gt_i, o2_ge_i, o2_is_n, o2_is_b, o2_isnot_n, o2_isnot_b, o2_eq_i, o2_eq_s, o2_eq_ns, o2_eq_b, o2_ne_b, o2_idx_t0, o2_idx_t1, o1_len_scr, o1_len_t, o1_len_l, o1_len_s, o1_not_b, o1_tuple_l, o1_list_t, o1_list_l, o1_rev_t, o1_neg_i, o1_int_b, isi_s, isi_i, isi_b, isi_n, isi_t, isi_l, isTy, isNone_n, isNone_b, isNone_i, isNone_s, isNone_t, isNone_l, isBool_b, Bool.not_true, Bool.not_false, eq_self, if_true, if_false, Bool.false_eq_true, reduceIte, beq_self_eq_true] <;> rfl
                        have qc := call2 (f := F.law_is_quest) (idx_at (i := 1) (gv (some (.dict manyKv)) (some (.str w_minus)) none none) rfl) (show evalE ρ (.o2 .sub (.var 1) (.int 1)) [some (.tuple [.str w, b, c]), some (.int dp), some (.dict manyKv), some (.str w_minus), some (.str w), some (.tuple [b, c]), none, none] = .ok (.int (dp - 1)) by simp only [evalSs, evalS, evalE, evalEs, evalIT, Res.bind_ok, Res.bind_bad, Res.bind_exc, Res.tame_ok, Fl.go_next, Fl.go_ret, Fl.fin_next, Fl.fin_ret, slot_some, List.getElem?_cons_zero, List.getElem?_cons_succ, List.set_cons_zero, List.set_cons_succ, put_nm, put_tu, puts_nil, puts_cons, chainK_t, chainK_f, truth_bool, truth_none, truth_int, truth_list, truth_tuple, truth_str, o2_add_i, o2_sub_i, o2_lt_i, o2_le_i, o2_gt_i, o2_ge_i, o2_is_n, o2_is_b, o2_isnot_n, o2_isnot_b, o2_eq_i, o2_eq_s, o2_eq_ns, o2_eq_b, o2_ne_b, o2_idx_t0, o2_idx_t1, o1_len_scr, o1_len_t, o1_len_l, o1_len_s, o1_not_b, o1_tuple_l, o1_list_t, o1_list_l, o1_rev_t, o1_neg_i, o1_int_b, isi_s, isi_i, isi_b, isi_n, isi_t, isi_l, isTy, isNone_n, isNone_b, isNone_i, isNone_s, isNone_t, isNone_l, isBool_b, Bool.not_true, Bool.not_false, eq_self, if_true, if_false, Bool.false_eq_true, reduceIte, beq_self_eq_true]) (ih n rfl c fc)
                        have goal : (decide (2 ≤ ([b, c] : List D).length) && (([b, c] : List D).take 2).all (isQuest n) && partsOk w (([b, c] : List D).drop 2)) = isQuest n c := by
                          show (decide (2 ≤ 2) && ([b, c] : List D).all (isQuest n) && partsOk w []) = _
                          rw [po]
                          simp [hq]
                        rw [goal]
                        cases hqc : isQuest n c with
                        | false =>
                          rw [hqc] at qc
                          exact seq_if (or_b (x := true) (y := true) (not_b qc) fun z => nomatch z) (fun _ => ret_b (x := false) (by simp only [evalSs, evalS, evalE, evalEs, evalIT, Res.bind_ok, Res.bind_bad, Res.bind_exc, Res.tame_ok, Fl.go_next, Fl.go_ret, Fl.fin_next, Fl.fin_ret, slot_some, List.getElem?_cons_zero, List.getElem?_cons_succ, List.set_cons_zero, List.set_cons_succ, put_nm, put_tu, puts_nil, puts_cons, chainK_t, chainK_f, truth_bool, truth_none, truth_int, truth_list, truth_tuple, truth_str, o2_add_i, o2_sub_i, o2_lt_i, o2_le_i, o2_gt_i, o2_ge_i, o2_is_n, o2_is_b, o2_isnot_n, o2_isnot_b, o2_eq_i, o2_eq_s, o2_eq_ns, o2_eq_b, o2_ne_b, o2_idx_t0, o2_idx_t1, o1_len_scr, o1_len_t, o1_len_l, o1_len_s, o1_not_b, o1_tuple_l, o1_list_t, o1_list_l, o1_rev_t, o1_neg_i, o1_int_b, isi_s, isi_i, isi_b, isi_n, isi_t, isi_l, isTy, isNone_n, isNone_b, isNone_i, isNone_s, isNone_t, isNone_l, isBool_b, Bool.not_true, Bool.not_false, eq_self, if_true, if_false, Bool.false_eq_true, reduceIte, beq_self_eq_true]) rfl) fun z => nomatch z
                        | true =>
                          rw [hqc] at qc
                          refine seq_if (or_b (x := false) (y := false) (not_b qc) fun _ => and_b (x := false) (y := false) (gl none none) fun z => nomatch z) (fun z => nomatch z) fun _ => ?_
                          have hif : evalE ρ (.ifE (.o2 .eq (.o1 .len (.var 5)) (.int 3)) c_law_is_quest_2 (.lst .nil)) [some (.tuple [.str w, b, c]), some (.int dp), some (.dict manyKv), some (.str w_minus), some (.str w), some (.tuple [b, c]), none, none] = .ok (.list []) := by
                            have g1 := gl none none
                            rw [evalE, g1]
                            rfl
                          refine (seq_asg hif).trans ?_
                          have hc3 : evalE ρ c_law_is_quest_3 [some (.tuple [.str w, b, c]), some (.int dp), some (.dict manyKv), some (.str w_minus), some (.str w), some (.tuple [b, c]), some (.list []), none] = .ok (.list []) := by
                            unfold c_law_is_quest_3
                            simp only [evalSs, evalS, evalE, evalEs, evalIT, Res.bind_ok, Res.bind_bad, Res.bind_exc, Res.tame_ok, Fl.go_next, Fl.go_ret, Fl.fin_next, Fl.fin_ret, slot_some, List.getElem?_cons_zero, List.getElem?_cons_succ, List.set_cons_zero, List.set_cons_succ, put_nm, put_tu, puts_nil, puts_cons, chainK_t, chainK_f, truth_bool, truth_none, truth_int, truth_list, truth_tuple, truth_str, o2_add_i, o2_sub_i, o2_lt_i, o2_le_i, o2_gt_i, o2_ge_i, o2_is_n, o2_is_b, o2_isnot_n, o2_isnot_b, o2_eq_i, o2_eq_s, o2_eq_ns, o2_eq_b, o2_ne_b, o2_idx_t0, o2_idx_t1, o1_len_scr, o1_len_t, o1_len_l, o1_len_s, o1_not_b, o1_tuple_l, o1_list_t, o1_list_l, o1_rev_t, o1_neg_i, o1_int_b, isi_s, isi_i, isi_b, isi_n, isi_t, isi_l, isTy, isNone_n, isNone_b, isNone_i, isNone_s, isNone_t, isNone_l, isBool_b, Bool.not_true, Bool.not_false, eq_self, if_true, if_false, Bool.false_eq_true, reduceIte, beq_self_eq_true, itemsOf, eachD]
                          have he := eq_nil_l [] (by simp [noDicts])
                          have e1 : op1 .lenSet (.list []) = .ok (.int 0) := by kernel_rfl
                          exact ret_b (and_b (x := true) (y := true) (by simp only [evalSs, evalS, evalE, evalEs, evalIT, Res.bind_ok, Res.bind_bad, Res.bind_exc, Res.tame_ok, Fl.go_next, Fl.go_ret, Fl.fin_next, Fl.fin_ret, slot_some, List.getElem?_cons_zero, List.getElem?_cons_succ, List.set_cons_zero, List.set_cons_succ, put_nm, put_tu, puts_nil, puts_cons, chainK_t, chainK_f, truth_bool, truth_none, truth_int, truth_list, truth_tuple, truth_str, o2_add_i, o2_sub_i, o2_lt_i, o2_le_i, o2_gt_i, o2_ge_i, o2_is_n, o2_is_b, o2_isnot_n, o2_isnot_b, o2_eq_i, o2_eq_s, o2_eq_ns, o2_eq_b, o2_ne_b, o2_idx_t0, o2_idx_t1, o1_len_scr, o1_len_t, o1_len_l, o1_len_s, o1_not_b, o1_tuple_l, o1_list_t, o1_list_l, o1_rev_t, o1_neg_i, o1_int_b, isi_s, isi_i, isi_b, isi_n, isi_t, isi_l, isTy, isNone_n, isNone_b, isNone_i, isNone_s, isNone_t, isNone_l, isBool_b, Bool.not_true, Bool.not_false, eq_self, if_true, if_false, Bool.false_eq_true, reduceIte, beq_self_eq_true, hc3, he] <;> rfl) fun _ => by simp only [evalSs, evalS, evalE, evalEs, evalIT, Res.bind_ok, Res.bind_bad, Res.bind_exc, Res.tame_ok, Fl.go_next, Fl.go_ret, Fl.fin_next, Fl.fin_ret, slot_some, List.getElem?_cons_zero, List.getElem?_cons_succ, List.set_cons_zero, List.set_cons_succ, put_nm, put_tu, puts_nil, puts_cons, chainK_t, chainK_f, truth_bool, truth_none, truth_int, truth_list, truth_tuple, truth_str, o2_add_i, o2_sub_i, o2_lt_i, o2_le_i, o2_gt_i, o2_ge_i, o2_is_n, o2_is_b, o2_isnot_n, o2_isnot_b, o2_eq_i, o2_eq_s, o2_eq_ns, o2_eq_b, o2_ne_b, o2_idx_t0, o2_idx_t1, o1_len_scr, o1_len_t, o1_len_l, o1_len_s, o1_not_b, o1_tuple_l, o1_list_t, o1_list_l, o1_rev_t, o1_neg_i, o1_int_b, isi_s, isi_i, isi_b, isi_n, isi_t, isi_l, isTy, isNone_n, isNone_b, isNone_i, isNone_s, isNone_t, isNone_l, isBool_b, Bool.not_true, Bool.not_false, eq_self, if_true, if_false, Bool.false_eq_true, reduceIte, beq_self_eq_true, e1] <;> rfl) rfl
                    · have hw2 : w ∉ twos := of_decide_eq_false f2
                      have m1 : manyQ w = 1 := by unfold manyQ; rw [if_neg (by rw [f2]; simp)]
                      rw [m1]
                      have h1 : (decide (1 ≤ (b :: r).length) && ((b :: r).take 1).all (isQuest n) && partsOk w ((b :: r).drop 1)) = partsOk w ((b :: r).drop 1) := by
                        rw [decide_eq_true (by simp)]
                        simp [hq]
                      rw [h1]
                      exact seq_ret (call2 (f := F.law_is_other) (gw _ _ _ _) (gv _ _ _ _) (hO w j (b :: r) hj hw2 hl frest))
                · rw [decide_eq_false hl] at hne
                  have : (decide (manyQ w ≤ (b :: r).length) && ((b :: r).take (manyQ w)).all (isQuest n) && partsOk w ((b :: r).drop (manyQ w))) = false := by
                    rw [Bool.eq_false_iff]
                    intro zz
                    rw [Bool.and_eq_true, Bool.and_eq_true] at zz
                    have l1 := of_decide_eq_true zz.1.1
                    have := parts_len hj zz.2
                    rw [List.length_drop] at this
                    omega
                  rw [this]
                  exact seq_if (or_b (x := false) (y := true) hni fun _ => or_b (x := true) (y := true) hne fun z => nomatch z) (fun _ => ret_b (x := false) (by simp only [evalSs, evalS, evalE, evalEs, evalIT, Res.bind_ok, Res.bind_bad, Res.bind_exc, Res.tame_ok, Fl.go_next, Fl.go_ret, Fl.fin_next, Fl.fin_ret, slot_some, List.getElem?_cons_zero, List.getElem?_cons_succ, List.set_cons_zero, List.set_cons_succ, put_nm, put_tu, puts_nil, puts_cons, chainK_t, chainK_f, truth_bool, truth_none, truth_int, truth_list, truth_tuple, truth_str, o2_add_i, o2_sub_i, o2_lt_i, o2_le_i, o2_gt_i, o2_ge_i, o2_is_n, o2_is_b, o2_isnot_n, o2_isnot_b, o2_eq_i, o2_eq_s, o2_eq_ns, o2_eq_b, o2_ne_b, o2_idx_t0, o2_idx_t1, o1_len_scr, o1_len_t, o1_len_l, o1_len_s, o1_not_b, o1_tuple_l, o1_list_t, o1_list_l, o1_rev_t, o1_neg_i, o1_int_b, isi_s, isi_i, isi_b, isi_n, isi_t, isi_l, isTy, isNone_n, isNone_b, isNone_i, isNone_s, isNone_t, isNone_l, isBool_b, Bool.not_true, Bool.not_false, eq_self, if_true, if_false, Bool.false_eq_true, reduceIte, beq_self_eq_true]) rfl) fun z => nomatch z
          | dict _ => simp [noDict, noDicts] at nd
          | _ => exact fin_of (seq_if_t (d := .bool true) (by simp only [evalSs, evalS, evalE, evalEs, evalIT, Res.bind_ok, Res.bind_bad, Res.bind_exc, Res.tame_ok, Fl.go_next, Fl.go_ret, Fl.fin_next, Fl.fin_ret, slot_some, List.getElem?_cons_zero, List.getElem?_cons_succ, List.set_cons_zero, List.set_cons_succ, put_nm, put_tu, puts_nil, puts_cons, chainK_t, chainK_f, truth_bool, truth_none, truth_int, truth_list, truth_tuple, truth_str, o2_add_i, o2_sub_i, o2_lt_i, o2_le_i, o2_gt_i, o2_ge_i, o2_is_n, o2_is_b, o2_isnot_n, o2_isnot_b, o2_eq_i, o2_eq_s, o2_eq_ns, o2_eq_b, o2_ne_b, o2_idx_t0, o2_idx_t1, o1_len_scr, o1_len_t, o1_len_l, o1_len_s, o1_not_b, o1_tuple_l, o1_list_t, o1_list_l, o1_rev_t, o1_neg_i, o1_int_b, isi_s, isi_i, isi_b, isi_n, isi_t, isi_l, isTy, isNone_n, isNone_b, isNone_i, isNone_s, isNone_t, isNone_l, isBool_b, Bool.not_true, Bool.not_false, eq_self, if_true, if_false, Bool.false_eq_true, reduceIte, beq_self_eq_true, len_lt2, z]) rfl (seq_ret (by simp only [evalSs, evalS, evalE, evalEs, evalIT, Res.bind_ok, Res.bind_bad, Res.bind_exc, Res.tame_ok, Fl.go_next, Fl.go_ret, Fl.fin_next, Fl.fin_ret, slot_some, List.getElem?_cons_zero, List.getElem?_cons_succ, List.set_cons_zero, List.set_cons_succ, put_nm, put_tu, puts_nil, puts_cons, chainK_t, chainK_f, truth_bool, truth_none, truth_int, truth_list, truth_tuple, truth_str, o2_add_i, o2_sub_i, o2_lt_i, o2_le_i, o2_gt_i, o2_ge_i, o2_is_n, o2_is_b, o2_isnot_n, o2_isnot_b, o2_eq_i, o2_eq_s, o2_eq_ns, o2_eq_b, o2_ne_b, o2_idx_t0, o2_idx_t1, o1_len_scr, o1_len_t, o1_len_l, o1_len_s, o1_not_b, o1_tuple_l, o1_list_t, o1_list_l, o1_rev_t, o1_neg_i, o1_int_b, isi_s, isi_i, isi_b, isi_n, isi_t, isi_l, isTy, isNone_n, isNone_b, isNone_i, isNone_s, isNone_t, isNone_l, isBool_b, Bool.not_true, Bool.not_false, eq_self, if_true, if_false, Bool.false_eq_true, reduceIte, beq_self_eq_true] <;> rfl)))
    | dict _ => simp [noDict] at nd
    | _ =>
      have : ∀ d : D, (∀ ds, d ≠ .tuple ds) → isQuest n d = false := fun d hd => by
        cases n with
        | zero => rfl
        | succ n => cases d <;> first | rfl | exact absurd rfl (hd _)
      exact (fin_of (seq_if_t (d := .bool true) (x := .bool false) (by simp only [evalSs, evalS, evalE, evalEs, evalIT, Res.bind_ok, Res.bind_bad, Res.bind_exc, Res.tame_ok, Fl.go_next, Fl.go_ret, Fl.fin_next, Fl.fin_ret, slot_some, List.getElem?_cons_zero, List.getElem?_cons_succ, List.set_cons_zero, List.set_cons_succ, put_nm, put_tu, puts_nil, puts_cons, chainK_t, chainK_f, truth_bool, truth_none, truth_int, truth_list, truth_tuple, truth_str, o2_add_i, o2_sub_i, o2_lt_i, o2_le_i, o2_gt_i, o2_ge_i, o2_is_n, o2_is_b, o2_isnot_n, o2_isnot_b, o2_eq_i, o2_eq_s, o2_eq_ns, o2_eq_b, o2_ne_b, o2_idx_t0, o2_idx_t1, o1_len_scr, o1_len_t, o1_len_l, o1_len_s, o1_not_b, o1_tuple_l, o1_list_t, o1_list_l, o1_rev_t, o1_neg_i, o1_int_b, isi_s, isi_i, isi_b, isi_n, isi_t, isi_l, isTy, isNone_n, isNone_b, isNone_i, isNone_s, isNone_t, isNone_l, isBool_b, Bool.not_true, Bool.not_false, eq_self, if_true, if_false, Bool.false_eq_true, reduceIte, beq_self_eq_true]) rfl (seq_ret (by simp only [evalSs, evalS, evalE, evalEs, evalIT, Res.bind_ok, Res.bind_bad, Res.bind_exc, Res.tame_ok, Fl.go_next, Fl.go_ret, Fl.fin_next, Fl.fin_ret, slot_some, List.getElem?_cons_zero, List.getElem?_cons_succ, List.set_cons_zero, List.set_cons_succ, put_nm, put_tu, puts_nil, puts_cons, chainK_t, chainK_f, truth_bool, truth_none, truth_int, truth_list, truth_tuple, truth_str, o2_add_i, o2_sub_i, o2_lt_i, o2_le_i, o2_gt_i, o2_ge_i, o2_is_n, o2_is_b, o2_isnot_n, o2_isnot_b, o2_eq_i, o2_eq_s, o2_eq_ns, o2_eq_b, o2_ne_b, o2_idx_t0, o2_idx_t1, o1_len_scr, o1_len_t, o1_len_l, o1_len_s, o1_not_b, o1_tuple_l, o1_list_t, o1_list_l, o1_rev_t, o1_neg_i, o1_int_b, isi_s, isi_i, isi_b, isi_n, isi_t, isi_l, isTy, isNone_n, isNone_b, isNone_i, isNone_s, isNone_t, isNone_l, isBool_b, Bool.not_true, Bool.not_false, eq_self, if_true, if_false, Bool.false_eq_true, reduceIte, beq_self_eq_true])))).trans (congrArg (fun b => Res.ok (PyData.bool b)) (this _ (by intro ds z; cases z)).symm)
termination_by n => n
decreasing_by all_goals omega
/-! the law k41 -/
structure SumG (n : Nat) (d : D) : Prop where
  is : ∀ j, n ≤ j → isSum j d = true
  fine : fine 10 d = true
  dep : PyData.depth d ≤ n
theorem sumG_leaf {n : Nat} {d : D} (h1 : ∀ j, isSum (j + 1) d = true) (h2 : fine 10 d = true) (h3 : PyData.depth d ≤ 1) : SumG (n + 1) d := ⟨fun j hj => by
  cases j with
  | zero => omega
  | succ j => exact h1 j, h2, by omega⟩
def leaves6 : List D := [.tuple [.str w_col, .str w_a], .tuple [.str w_value, .int 7], .tuple [.str w_value, .str w_x], .tuple [.str w_value, .bool true], .tuple [.str w_gap, .str w_text], .tuple [.str w_col, .str w_sixsix]]
theorem leaves_ok (n : Nat) : ∀ d ∈ leaves6, SumG (n + 1) d := fun d hd => by
  simp only [leaves6, List.mem_cons, List.not_mem_nil, or_false] at hd
  rcases hd with rfl | rfl | rfl | rfl | rfl | rfl <;> exact sumG_leaf (fun j => by kernel_rfl) (by decide +kernel) (by simp [PyData.depth, PyData.depthAll])
theorem fine_w10 : ∀ x ∈ words1 ++ words2 ++ [w_if, w_table, w_where, w_add, w_new, w_join, w_left, w_both, w_minus, w_take, w_name, w_once, w_first, w_group, w_sort, w_a, w_b, w_house], fine 10 (.str x) = true := by decide +kernel
theorem sumG_1 {n : Nat} {w : Str} {a : D} (hw : w ∈ words1) (ha : SumG n a) : SumG (n + 1) (.tuple [.str w, a]) := ⟨fun j hj => by
  cases j with
  | zero => omega
  | succ j =>
    show isSumT (isSum j) w [a] = true
    rw [sumT_1 _ _ _ hw, ha.is j (by omega)], fine_t1 (by omega) (fine_w10 w (by simp only [List.mem_append]; exact .inl (.inl hw))) ha.fine, by rw [depth_1]; have := ha.dep; omega⟩
theorem sumG_2 {n : Nat} {w : Str} {a b : D} (hw : w ∈ words2) (ha : SumG n a) (hb : SumG n b) : SumG (n + 1) (.tuple [.str w, a, b]) := ⟨fun j hj => by
  cases j with
  | zero => omega
  | succ j =>
    show isSumT (isSum j) w [a, b] = true
    rw [sumT_2 _ _ _ _ hw, ha.is j (by omega), hb.is j (by omega)]; rfl, fine_t2 (by omega) (fine_w10 w (by simp only [List.mem_append]; exact .inl (.inr hw))) ha.fine hb.fine, by rw [depth_2]; have := ha.dep; have := hb.dep; omega⟩
theorem sumG_3 {n : Nat} {a b : D} (ha : SumG n a) (hb : SumG n b) : SumG (n + 1) (.tuple [.str w_if, a, b, a]) := ⟨fun j hj => by
  cases j with
  | zero => omega
  | succ j =>
    show isSumT (isSum j) w_if [a, b, a] = true
    rw [sumT_3, ha.is j (by omega), hb.is j (by omega)]; rfl, fine_t3 (by omega) (fine_w10 w_if (by simp)) ha.fine hb.fine ha.fine, by rw [depth_3]; have := ha.dep; have := hb.dep; omega⟩
theorem pick_w (ws : List Str) (c p : Int) (h : 0 < ws.length) : ∃ v ∈ ws, op2 .idx (.tuple (ws.map PyData.str)) (.int (mix c p ws.length)) = .ok (.str v) := by
  obtain ⟨h1, h2⟩ := mix_range c p (m := ws.length) (by omega)
  obtain ⟨x, hx, ha, _⟩ := atI_in (xs := ws.map PyData.str) h1 (by rw [List.length_map]; exact h2)
  obtain ⟨v, hv, rfl⟩ := List.mem_map.mp hx
  exact ⟨v, hv, o2_idx_t ha⟩
theorem any_sum : ∀ (n k : Nat) (c dp : Int), dp = n + 1 → ∃ r, callF defs (n + k + 2) F.law_any_sum [.int c, .int dp] = .ok r ∧ SumG (n + 1) r
  | n, k, c, dp, e => by
    rw [u_law_any_sum]
    have hm : ∀ p m : Int, 0 < p → p ≤ 10000 → 0 < m → callF defs (n + k + 1) F.law_mix [.int c, .int p, .int m] = .ok (.int (mix c p m)) := fun p m h1 h2 h3 => mix_eq (n + k) c p m h1 h2 h3
    have ih : ∀ m : Nat, n = m + 1 → ∀ c : Int, ∃ r, callF defs (n + k + 1) F.law_any_sum [.int c, .int (dp - 1)] = .ok r ∧ SumG (m + 1) r := fun m hn c => by
      obtain ⟨r, h1, h2⟩ := any_sum m k c (dp - 1) (by omega)
      exact ⟨r, by rw [show n + k + 1 = m + k + 2 by omega]; exact h1, h2⟩
    generalize callF defs (n + k + 1) = ρ at hm ih
    have mw := hm 9973 12 (by omega) (by omega) (by omega)
    have m6 := hm 9967 6 (by omega) (by omega) (by omega)
    have m3 := hm 9949 3 (by omega) (by omega) (by omega)
    have m9 := hm 9941 9 (by omega) (by omega) (by omega)
    obtain ⟨w0, w12⟩ := mix_range c 9973 (m := 12) (by omega)
    generalize mix c 9973 12 = w at mw w0 w12
    have e3 : op2 .mul (.int c) (.int 3) = .ok (.int (c * 3)) := o2_mul (mulOk_r (by omega) (by omega))
    by_cases leaf : dp = 1 ∨ w < 4
    · have cl : evalE ρ (.or_ (.o2 .eq (.var 1) (.int 1)) (.o2 .lt (.var 2) (.int 4))) [some (.int c), some (.int dp), some (.int w), none, none, none, none] = .ok (.bool true) := by
        by_cases q : dp = 1
        · have q' : (dp == 1) = true := by rw [beq_iff_eq]; exact q
          simp only [evalSs, evalS, evalE, evalEs, evalIT, Res.bind_ok, Res.bind_bad, Res.bind_exc, Res.tame_ok, Fl.go_next, Fl.go_ret, Fl.fin_next, Fl.fin_ret, slot_some, List.getElem?_cons_zero, List.getElem?_cons_succ, List.set_cons_zero, List.set_cons_succ, put_nm, put_tu, puts_nil, puts_cons, chainK_t, chainK_f, truth_bool, truth_none, truth_int, truth_list, truth_tuple, truth_str, o2_add_i, o2_sub_i, o2_lt_i, o2_le_i, o2_gt_i, o2_ge_i, o2_is_n, o2_is_b, o2_isnot_n, o2_isnot_b, o2_eq_i, o2_eq_s, o2_eq_ns, o2_eq_b, o2_ne_b, o2_idx_t0, o2_idx_t1, o1_len_scr, o1_len_t, o1_len_l, o1_len_s, o1_not_b, o1_tuple_l, o1_list_t, o1_list_l, o1_rev_t, o1_neg_i, o1_int_b, isi_s, isi_i, isi_b, isi_n, isi_t, isi_l, isTy, isNone_n, isNone_b, isNone_i, isNone_s, isNone_t, isNone_l, isBool_b, Bool.not_true, Bool.not_false, eq_self, if_true, if_false, Bool.false_eq_true, reduceIte, beq_self_eq_true, q']
        · have q' : (dp == 1) = false := beq_eq_false_iff_ne.mpr q
          simp only [evalSs, evalS, evalE, evalEs, evalIT, Res.bind_ok, Res.bind_bad, Res.bind_exc, Res.tame_ok, Fl.go_next, Fl.go_ret, Fl.fin_next, Fl.fin_ret, slot_some, List.getElem?_cons_zero, List.getElem?_cons_succ, List.set_cons_zero, List.set_cons_succ, put_nm, put_tu, puts_nil, puts_cons, chainK_t, chainK_f, truth_bool, truth_none, truth_int, truth_list, truth_tuple, truth_str, o2_add_i, o2_sub_i, o2_lt_i, o2_le_i, o2_gt_i, o2_ge_i, o2_is_n, o2_is_b, o2_isnot_n, o2_isnot_b, o2_eq_i, o2_eq_s, o2_eq_ns, o2_eq_b, o2_ne_b, o2_idx_t0, o2_idx_t1, o1_len_scr, o1_len_t, o1_len_l, o1_len_s, o1_not_b, o1_tuple_l, o1_list_t, o1_list_l, o1_rev_t, o1_neg_i, o1_int_b, isi_s, isi_i, isi_b, isi_n, isi_t, isi_l, isTy, isNone_n, isNone_b, isNone_i, isNone_s, isNone_t, isNone_l, isBool_b, Bool.not_true, Bool.not_false, eq_self, if_true, if_false, Bool.false_eq_true, reduceIte, beq_self_eq_true, q', decide_eq_true (leaf.resolve_left q)]
      obtain ⟨h1, h2⟩ := mix_range c 9967 (m := 6) (by omega)
      obtain ⟨x, hx, ha, _⟩ := atI_in (xs := leaves6) h1 (by simp [leaves6]; omega)
      have hi := o2_idx_t ha
      exact ⟨x, fin_of ((seq_asg (by simp only [evalSs, evalS, evalE, evalEs, evalIT, Res.bind_ok, Res.bind_bad, Res.bind_exc, Res.tame_ok, Fl.go_next, Fl.go_ret, Fl.fin_next, Fl.fin_ret, slot_some, List.getElem?_cons_zero, List.getElem?_cons_succ, List.set_cons_zero, List.set_cons_succ, put_nm, put_tu, puts_nil, puts_cons, chainK_t, chainK_f, truth_bool, truth_none, truth_int, truth_list, truth_tuple, truth_str, o2_add_i, o2_sub_i, o2_lt_i, o2_le_i, o2_gt_i, o2_ge_i, o2_is_n, o2_is_b, o2_isnot_n, o2_isnot_b, o2_eq_i, o2_eq_s, o2_eq_ns, o2_eq_b, o2_ne_b, o2_idx_t0, o2_idx_t1, o1_len_scr, o1_len_t, o1_len_l, o1_len_s, o1_not_b, o1_tuple_l, o1_list_t, o1_list_l, o1_rev_t, o1_neg_i, o1_int_b, isi_s, isi_i, isi_b, isi_n, isi_t, isi_l, isTy, isNone_n, isNone_b, isNone_i, isNone_s, isNone_t, isNone_l, isBool_b, Bool.not_true, Bool.not_false, eq_self, if_true, if_false, Bool.false_eq_true, reduceIte, beq_self_eq_true, mw] <;> rfl)).trans (seq_if_t cl rfl ((seq_asg (d := .tuple leaves6) (by simp only [evalSs, evalS, evalE, evalEs, evalIT, Res.bind_ok, Res.bind_bad, Res.bind_exc, Res.tame_ok, Fl.go_next, Fl.go_ret, Fl.fin_next, Fl.fin_ret, slot_some, List.getElem?_cons_zero, List.getElem?_cons_succ, List.set_cons_zero, List.set_cons_succ, put_nm, put_tu, puts_nil, puts_cons, chainK_t, chainK_f, truth_bool, truth_none, truth_int, truth_list, truth_tuple, truth_str, o2_add_i, o2_sub_i, o2_lt_i, o2_le_i, o2_gt_i, o2_ge_i, o2_is_n, o2_is_b, o2_isnot_n, o2_isnot_b, o2_eq_i, o2_eq_s, o2_eq_ns, o2_eq_b, o2_ne_b, o2_idx_t0, o2_idx_t1, o1_len_scr, o1_len_t, o1_len_l, o1_len_s, o1_not_b, o1_tuple_l, o1_list_t, o1_list_l, o1_rev_t, o1_neg_i, o1_int_b, isi_s, isi_i, isi_b, isi_n, isi_t, isi_l, isTy, isNone_n, isNone_b, isNone_i, isNone_s, isNone_t, isNone_l, isBool_b, Bool.not_true, Bool.not_false, eq_self, if_true, if_false, Bool.false_eq_true, reduceIte, beq_self_eq_true, leaves6])).trans (seq_ret (by simp only [evalSs, evalS, evalE, evalEs, evalIT, Res.bind_ok, Res.bind_bad, Res.bind_exc, Res.tame_ok, Fl.go_next, Fl.go_ret, Fl.fin_next, Fl.fin_ret, slot_some, List.getElem?_cons_zero, List.getElem?_cons_succ, List.set_cons_zero, List.set_cons_succ, put_nm, put_tu, puts_nil, puts_cons, chainK_t, chainK_f, truth_bool, truth_none, truth_int, truth_list, truth_tuple, truth_str, o2_add_i, o2_sub_i, o2_lt_i, o2_le_i, o2_gt_i, o2_ge_i, o2_is_n, o2_is_b, o2_isnot_n, o2_isnot_b, o2_eq_i, o2_eq_s, o2_eq_ns, o2_eq_b, o2_ne_b, o2_idx_t0, o2_idx_t1, o1_len_scr, o1_len_t, o1_len_l, o1_len_s, o1_not_b, o1_tuple_l, o1_list_t, o1_list_l, o1_rev_t, o1_neg_i, o1_int_b, isi_s, isi_i, isi_b, isi_n, isi_t, isi_l, isTy, isNone_n, isNone_b, isNone_i, isNone_s, isNone_t, isNone_l, isBool_b, Bool.not_true, Bool.not_false, eq_self, if_true, if_false, Bool.false_eq_true, reduceIte, beq_self_eq_true, m6, hi]))))), leaves_ok n x hx⟩
    · have l1 : ¬ dp = 1 := fun z => leaf (.inl z)
      have l2 : ¬ w < 4 := fun z => leaf (.inr z)
      have l1' : (dp == 1) = false := beq_eq_false_iff_ne.mpr l1
      cases n with
      | zero => omega
      | succ m =>
        obtain ⟨a, a1, a2⟩ := ih m rfl (c * 3 + 1)
        obtain ⟨b, b1, b2⟩ := ih m rfl (c * 3 + 2)
        have head : ∀ {r : D} {ss : ISs}, evalSs ρ ss [some (.int c), some (.int dp), some (.int w), none, none, some a, some b] = .ok (.ret r) → evalSs ρ (.cons (.par 5 6 (.call F.law_any_sum (.cons (.o2 .add (.o2 .mul (.var 0) (.int 3)) (.int 1)) (.cons (.o2 .sub (.var 1) (.int 1)) .nil))) (.call F.law_any_sum (.cons (.o2 .add (.o2 .mul (.var 0) (.int 3)) (.int 2)) (.cons (.o2 .sub (.var 1) (.int 1)) .nil)))) ss) [some (.int c), some (.int dp), some (.int w), none, none, none, none] = .ok (.ret r) := fun {r ss} h => seq_next (e := [some (.int c), some (.int dp), some (.int w), none, none, some a, some b]) (by simp only [evalSs, evalS, evalE, evalEs, evalIT, Res.bind_ok, Res.bind_bad, Res.bind_exc, Res.tame_ok, Fl.go_next, Fl.go_ret, Fl.fin_next, Fl.fin_ret, slot_some, List.getElem?_cons_zero, List.getElem?_cons_succ, List.set_cons_zero, List.set_cons_succ, put_nm, put_tu, puts_nil, puts_cons, chainK_t, chainK_f, truth_bool, truth_none, truth_int, truth_list, truth_tuple, truth_str, o2_add_i, o2_sub_i, o2_lt_i, o2_le_i, o2_gt_i, o2_ge_i, o2_is_n, o2_is_b, o2_isnot_n, o2_isnot_b, o2_eq_i, o2_eq_s, o2_eq_ns, o2_eq_b, o2_ne_b, o2_idx_t0, o2_idx_t1, o1_len_scr, o1_len_t, o1_len_l, o1_len_s, o1_not_b, o1_tuple_l, o1_list_t, o1_list_l, o1_rev_t, o1_neg_i, o1_int_b, isi_s, isi_i, isi_b, isi_n, isi_t, isi_l, isTy, isNone_n, isNone_b, isNone_i, isNone_s, isNone_t, isNone_l, isBool_b, Bool.not_true, Bool.not_false, eq_self, if_true, if_false, Bool.false_eq_true, reduceIte, beq_self_eq_true, e3, a1, b1]) h
        by_cases h6 : w < 6
        · obtain ⟨v, hv, hi⟩ := pick_w words1 c 9949 (by simp [words1])
          have hi : op2 .idx (.tuple [.str w_size, .str w_not, .str w_lacks]) (.int (mix c 9949 3)) = .ok (.str v) := hi
          exact ⟨_, fin_of ((seq_asg (by simp only [evalSs, evalS, evalE, evalEs, evalIT, Res.bind_ok, Res.bind_bad, Res.bind_exc, Res.tame_ok, Fl.go_next, Fl.go_ret, Fl.fin_next, Fl.fin_ret, slot_some, List.getElem?_cons_zero, List.getElem?_cons_succ, List.set_cons_zero, List.set_cons_succ, put_nm, put_tu, puts_nil, puts_cons, chainK_t, chainK_f, truth_bool, truth_none, truth_int, truth_list, truth_tuple, truth_str, o2_add_i, o2_sub_i, o2_lt_i, o2_le_i, o2_gt_i, o2_ge_i, o2_is_n, o2_is_b, o2_isnot_n, o2_isnot_b, o2_eq_i, o2_eq_s, o2_eq_ns, o2_eq_b, o2_ne_b, o2_idx_t0, o2_idx_t1, o1_len_scr, o1_len_t, o1_len_l, o1_len_s, o1_not_b, o1_tuple_l, o1_list_t, o1_list_l, o1_rev_t, o1_neg_i, o1_int_b, isi_s, isi_i, isi_b, isi_n, isi_t, isi_l, isTy, isNone_n, isNone_b, isNone_i, isNone_s, isNone_t, isNone_l, isBool_b, Bool.not_true, Bool.not_false, eq_self, if_true, if_false, Bool.false_eq_true, reduceIte, beq_self_eq_true, mw] <;> rfl)).trans ((seq_if_f (d := .bool false) (by simp only [evalSs, evalS, evalE, evalEs, evalIT, Res.bind_ok, Res.bind_bad, Res.bind_exc, Res.tame_ok, Fl.go_next, Fl.go_ret, Fl.fin_next, Fl.fin_ret, slot_some, List.getElem?_cons_zero, List.getElem?_cons_succ, List.set_cons_zero, List.set_cons_succ, put_nm, put_tu, puts_nil, puts_cons, chainK_t, chainK_f, truth_bool, truth_none, truth_int, truth_list, truth_tuple, truth_str, o2_add_i, o2_sub_i, o2_lt_i, o2_le_i, o2_gt_i, o2_ge_i, o2_is_n, o2_is_b, o2_isnot_n, o2_isnot_b, o2_eq_i, o2_eq_s, o2_eq_ns, o2_eq_b, o2_ne_b, o2_idx_t0, o2_idx_t1, o1_len_scr, o1_len_t, o1_len_l, o1_len_s, o1_not_b, o1_tuple_l, o1_list_t, o1_list_l, o1_rev_t, o1_neg_i, o1_int_b, isi_s, isi_i, isi_b, isi_n, isi_t, isi_l, isTy, isNone_n, isNone_b, isNone_i, isNone_s, isNone_t, isNone_l, isBool_b, Bool.not_true, Bool.not_false, eq_self, if_true, if_false, Bool.false_eq_true, reduceIte, beq_self_eq_true, l1', decide_eq_false l2]) rfl rfl).trans (head (seq_if_t (d := .bool true) (by simp only [evalSs, evalS, evalE, evalEs, evalIT, Res.bind_ok, Res.bind_bad, Res.bind_exc, Res.tame_ok, Fl.go_next, Fl.go_ret, Fl.fin_next, Fl.fin_ret, slot_some, List.getElem?_cons_zero, List.getElem?_cons_succ, List.set_cons_zero, List.set_cons_succ, put_nm, put_tu, puts_nil, puts_cons, chainK_t, chainK_f, truth_bool, truth_none, truth_int, truth_list, truth_tuple, truth_str, o2_add_i, o2_sub_i, o2_lt_i, o2_le_i, o2_gt_i, o2_ge_i, o2_is_n, o2_is_b, o2_isnot_n, o2_isnot_b, o2_eq_i, o2_eq_s, o2_eq_ns, o2_eq_b, o2_ne_b, o2_idx_t0, o2_idx_t1, o1_len_scr, o1_len_t, o1_len_l, o1_len_s, o1_not_b, o1_tuple_l, o1_list_t, o1_list_l, o1_rev_t, o1_neg_i, o1_int_b, isi_s, isi_i, isi_b, isi_n, isi_t, isi_l, isTy, isNone_n, isNone_b, isNone_i, isNone_s, isNone_t, isNone_l, isBool_b, Bool.not_true, Bool.not_false, eq_self, if_true, if_false, Bool.false_eq_true, reduceIte, beq_self_eq_true, decide_eq_true h6]) rfl (seq_ret (by simp only [evalSs, evalS, evalE, evalEs, evalIT, Res.bind_ok, Res.bind_bad, Res.bind_exc, Res.tame_ok, Fl.go_next, Fl.go_ret, Fl.fin_next, Fl.fin_ret, slot_some, List.getElem?_cons_zero, List.getElem?_cons_succ, List.set_cons_zero, List.set_cons_succ, put_nm, put_tu, puts_nil, puts_cons, chainK_t, chainK_f, truth_bool, truth_none, truth_int, truth_list, truth_tuple, truth_str, o2_add_i, o2_sub_i, o2_lt_i, o2_le_i, o2_gt_i, o2_ge_i, o2_is_n, o2_is_b, o2_isnot_n, o2_isnot_b, o2_eq_i, o2_eq_s, o2_eq_ns, o2_eq_b, o2_ne_b, o2_idx_t0, o2_idx_t1, o1_len_scr, o1_len_t, o1_len_l, o1_len_s, o1_not_b, o1_tuple_l, o1_list_t, o1_list_l, o1_rev_t, o1_neg_i, o1_int_b, isi_s, isi_i, isi_b, isi_n, isi_t, isi_l, isTy, isNone_n, isNone_b, isNone_i, isNone_s, isNone_t, isNone_l, isBool_b, Bool.not_true, Bool.not_false, eq_self, if_true, if_false, Bool.false_eq_true, reduceIte, beq_self_eq_true, m3, hi] <;> rfl)))))), sumG_1 hv a2⟩
        · by_cases h66 : w = 6
          · have q : (w == 6) = true := by rw [beq_iff_eq]; exact h66
            exact ⟨_, fin_of ((seq_asg (by simp only [evalSs, evalS, evalE, evalEs, evalIT, Res.bind_ok, Res.bind_bad, Res.bind_exc, Res.tame_ok, Fl.go_next, Fl.go_ret, Fl.fin_next, Fl.fin_ret, slot_some, List.getElem?_cons_zero, List.getElem?_cons_succ, List.set_cons_zero, List.set_cons_succ, put_nm, put_tu, puts_nil, puts_cons, chainK_t, chainK_f, truth_bool, truth_none, truth_int, truth_list, truth_tuple, truth_str, o2_add_i, o2_sub_i, o2_lt_i, o2_le_i, o2_gt_i, o2_ge_i, o2_is_n, o2_is_b, o2_isnot_n, o2_isnot_b, o2_eq_i, o2_eq_s, o2_eq_ns, o2_eq_b, o2_ne_b, o2_idx_t0, o2_idx_t1, o1_len_scr, o1_len_t, o1_len_l, o1_len_s, o1_not_b, o1_tuple_l, o1_list_t, o1_list_l, o1_rev_t, o1_neg_i, o1_int_b, isi_s, isi_i, isi_b, isi_n, isi_t, isi_l, isTy, isNone_n, isNone_b, isNone_i, isNone_s, isNone_t, isNone_l, isBool_b, Bool.not_true, Bool.not_false, eq_self, if_true, if_false, Bool.false_eq_true, reduceIte, beq_self_eq_true, mw] <;> rfl)).trans ((seq_if_f (d := .bool false) (by simp only [evalSs, evalS, evalE, evalEs, evalIT, Res.bind_ok, Res.bind_bad, Res.bind_exc, Res.tame_ok, Fl.go_next, Fl.go_ret, Fl.fin_next, Fl.fin_ret, slot_some, List.getElem?_cons_zero, List.getElem?_cons_succ, List.set_cons_zero, List.set_cons_succ, put_nm, put_tu, puts_nil, puts_cons, chainK_t, chainK_f, truth_bool, truth_none, truth_int, truth_list, truth_tuple, truth_str, o2_add_i, o2_sub_i, o2_lt_i, o2_le_i, o2_gt_i, o2_ge_i, o2_is_n, o2_is_b, o2_isnot_n, o2_isnot_b, o2_eq_i, o2_eq_s, o2_eq_ns, o2_eq_b, o2_ne_b, o2_idx_t0, o2_idx_t1, o1_len_scr, o1_len_t, o1_len_l, o1_len_s, o1_not_b, o1_tuple_l, o1_list_t, o1_list_l, o1_rev_t, o1_neg_i, o1_int_b, isi_s, isi_i, isi_b, isi_n, isi_t, isi_l, isTy, isNone_n, isNone_b, isNone_i, isNone_s, isNone_t, isNone_l, isBool_b, Bool.not_true, Bool.not_false, eq_self, if_true, if_false, Bool.false_eq_true, reduceIte, beq_self_eq_true, l1', decide_eq_false l2]) rfl rfl).trans (head ((seq_if_f (d := .bool false) (by simp only [evalSs, evalS, evalE, evalEs, evalIT, Res.bind_ok, Res.bind_bad, Res.bind_exc, Res.tame_ok, Fl.go_next, Fl.go_ret, Fl.fin_next, Fl.fin_ret, slot_some, List.getElem?_cons_zero, List.getElem?_cons_succ, List.set_cons_zero, List.set_cons_succ, put_nm, put_tu, puts_nil, puts_cons, chainK_t, chainK_f, truth_bool, truth_none, truth_int, truth_list, truth_tuple, truth_str, o2_add_i, o2_sub_i, o2_lt_i, o2_le_i, o2_gt_i, o2_ge_i, o2_is_n, o2_is_b, o2_isnot_n, o2_isnot_b, o2_eq_i, o2_eq_s, o2_eq_ns, o2_eq_b, o2_ne_b, o2_idx_t0, o2_idx_t1, o1_len_scr, o1_len_t, o1_len_l, o1_len_s, o1_not_b, o1_tuple_l, o1_list_t, o1_list_l, o1_rev_t, o1_neg_i, o1_int_b, isi_s, isi_i, isi_b, isi_n, isi_t, isi_l, isTy, isNone_n, isNone_b, isNone_i, isNone_s, isNone_t, isNone_l, isBool_b, Bool.not_true, Bool.not_false, eq_self, if_true, if_false, Bool.false_eq_true, reduceIte, beq_self_eq_true, decide_eq_false h6]) rfl rfl).trans (seq_if_t (d := .bool true) (by simp only [evalSs, evalS, evalE, evalEs, evalIT, Res.bind_ok, Res.bind_bad, Res.bind_exc, Res.tame_ok, Fl.go_next, Fl.go_ret, Fl.fin_next, Fl.fin_ret, slot_some, List.getElem?_cons_zero, List.getElem?_cons_succ, List.set_cons_zero, List.set_cons_succ, put_nm, put_tu, puts_nil, puts_cons, chainK_t, chainK_f, truth_bool, truth_none, truth_int, truth_list, truth_tuple, truth_str, o2_add_i, o2_sub_i, o2_lt_i, o2_le_i, o2_gt_i, o2_ge_i, o2_is_n, o2_is_b, o2_isnot_n, o2_isnot_b, o2_eq_i, o2_eq_s, o2_eq_ns, o2_eq_b, o2_ne_b, o2_idx_t0, o2_idx_t1, o1_len_scr, o1_len_t, o1_len_l, o1_len_s, o1_not_b, o1_tuple_l, o1_list_t, o1_list_l, o1_rev_t, o1_neg_i, o1_int_b, isi_s, isi_i, isi_b, isi_n, isi_t, isi_l, isTy, isNone_n, isNone_b, isNone_i, isNone_s, isNone_t, isNone_l, isBool_b, Bool.not_true, Bool.not_false, eq_self, if_true, if_false, Bool.false_eq_true, reduceIte, beq_self_eq_true, q]) rfl (seq_ret (by simp only [evalSs, evalS, evalE, evalEs, evalIT, Res.bind_ok, Res.bind_bad, Res.bind_exc, Res.tame_ok, Fl.go_next, Fl.go_ret, Fl.fin_next, Fl.fin_ret, slot_some, List.getElem?_cons_zero, List.getElem?_cons_succ, List.set_cons_zero, List.set_cons_succ, put_nm, put_tu, puts_nil, puts_cons, chainK_t, chainK_f, truth_bool, truth_none, truth_int, truth_list, truth_tuple, truth_str, o2_add_i, o2_sub_i, o2_lt_i, o2_le_i, o2_gt_i, o2_ge_i, o2_is_n, o2_is_b, o2_isnot_n, o2_isnot_b, o2_eq_i, o2_eq_s, o2_eq_ns, o2_eq_b, o2_ne_b, o2_idx_t0, o2_idx_t1, o1_len_scr, o1_len_t, o1_len_l, o1_len_s, o1_not_b, o1_tuple_l, o1_list_t, o1_list_l, o1_rev_t, o1_neg_i, o1_int_b, isi_s, isi_i, isi_b, isi_n, isi_t, isi_l, isTy, isNone_n, isNone_b, isNone_i, isNone_s, isNone_t, isNone_l, isBool_b, Bool.not_true, Bool.not_false, eq_self, if_true, if_false, Bool.false_eq_true, reduceIte, beq_self_eq_true] <;> rfl))))))), sumG_3 a2 b2⟩
          · have q : (w == 6) = false := beq_eq_false_iff_ne.mpr h66
            obtain ⟨v, hv, hi⟩ := pick_w words2 c 9941 (by simp [words2])
            have hi : op2 .idx (.tuple [.str w_plus, .str w_less, .str w_times, .str w_glue, .str w_below, .str w_same, .str w_and, .str w_or, .str w_else]) (.int (mix c 9941 9)) = .ok (.str v) := hi
            exact ⟨_, fin_of ((seq_asg (by simp only [evalSs, evalS, evalE, evalEs, evalIT, Res.bind_ok, Res.bind_bad, Res.bind_exc, Res.tame_ok, Fl.go_next, Fl.go_ret, Fl.fin_next, Fl.fin_ret, slot_some, List.getElem?_cons_zero, List.getElem?_cons_succ, List.set_cons_zero, List.set_cons_succ, put_nm, put_tu, puts_nil, puts_cons, chainK_t, chainK_f, truth_bool, truth_none, truth_int, truth_list, truth_tuple, truth_str, o2_add_i, o2_sub_i, o2_lt_i, o2_le_i, o2_gt_i, o2_ge_i, o2_is_n, o2_is_b, o2_isnot_n, o2_isnot_b, o2_eq_i, o2_eq_s, o2_eq_ns, o2_eq_b, o2_ne_b, o2_idx_t0, o2_idx_t1, o1_len_scr, o1_len_t, o1_len_l, o1_len_s, o1_not_b, o1_tuple_l, o1_list_t, o1_list_l, o1_rev_t, o1_neg_i, o1_int_b, isi_s, isi_i, isi_b, isi_n, isi_t, isi_l, isTy, isNone_n, isNone_b, isNone_i, isNone_s, isNone_t, isNone_l, isBool_b, Bool.not_true, Bool.not_false, eq_self, if_true, if_false, Bool.false_eq_true, reduceIte, beq_self_eq_true, mw] <;> rfl)).trans ((seq_if_f (d := .bool false) (by simp only [evalSs, evalS, evalE, evalEs, evalIT, Res.bind_ok, Res.bind_bad, Res.bind_exc, Res.tame_ok, Fl.go_next, Fl.go_ret, Fl.fin_next, Fl.fin_ret, slot_some, List.getElem?_cons_zero, List.getElem?_cons_succ, List.set_cons_zero, List.set_cons_succ, put_nm, put_tu, puts_nil, puts_cons, chainK_t, chainK_f, truth_bool, truth_none, truth_int, truth_list, truth_tuple, truth_str, o2_add_i, o2_sub_i, o2_lt_i, o2_le_i, o2_gt_i, o2_ge_i, o2_is_n, o2_is_b, o2_isnot_n, o2_isnot_b, o2_eq_i, o2_eq_s, o2_eq_ns, o2_eq_b, o2_ne_b, o2_idx_t0, o2_idx_t1, o1_len_scr, o1_len_t, o1_len_l, o1_len_s, o1_not_b, o1_tuple_l, o1_list_t, o1_list_l, o1_rev_t, o1_neg_i, o1_int_b, isi_s, isi_i, isi_b, isi_n, isi_t, isi_l, isTy, isNone_n, isNone_b, isNone_i, isNone_s, isNone_t, isNone_l, isBool_b, Bool.not_true, Bool.not_false, eq_self, if_true, if_false, Bool.false_eq_true, reduceIte, beq_self_eq_true, l1', decide_eq_false l2]) rfl rfl).trans (head ((seq_if_f (d := .bool false) (by simp only [evalSs, evalS, evalE, evalEs, evalIT, Res.bind_ok, Res.bind_bad, Res.bind_exc, Res.tame_ok, Fl.go_next, Fl.go_ret, Fl.fin_next, Fl.fin_ret, slot_some, List.getElem?_cons_zero, List.getElem?_cons_succ, List.set_cons_zero, List.set_cons_succ, put_nm, put_tu, puts_nil, puts_cons, chainK_t, chainK_f, truth_bool, truth_none, truth_int, truth_list, truth_tuple, truth_str, o2_add_i, o2_sub_i, o2_lt_i, o2_le_i, o2_gt_i, o2_ge_i, o2_is_n, o2_is_b, o2_isnot_n, o2_isnot_b, o2_eq_i, o2_eq_s, o2_eq_ns, o2_eq_b, o2_ne_b, o2_idx_t0, o2_idx_t1, o1_len_scr, o1_len_t, o1_len_l, o1_len_s, o1_not_b, o1_tuple_l, o1_list_t, o1_list_l, o1_rev_t, o1_neg_i, o1_int_b, isi_s, isi_i, isi_b, isi_n, isi_t, isi_l, isTy, isNone_n, isNone_b, isNone_i, isNone_s, isNone_t, isNone_l, isBool_b, Bool.not_true, Bool.not_false, eq_self, if_true, if_false, Bool.false_eq_true, reduceIte, beq_self_eq_true, decide_eq_false h6]) rfl rfl).trans ((seq_if_f (d := .bool false) (by simp only [evalSs, evalS, evalE, evalEs, evalIT, Res.bind_ok, Res.bind_bad, Res.bind_exc, Res.tame_ok, Fl.go_next, Fl.go_ret, Fl.fin_next, Fl.fin_ret, slot_some, List.getElem?_cons_zero, List.getElem?_cons_succ, List.set_cons_zero, List.set_cons_succ, put_nm, put_tu, puts_nil, puts_cons, chainK_t, chainK_f, truth_bool, truth_none, truth_int, truth_list, truth_tuple, truth_str, o2_add_i, o2_sub_i, o2_lt_i, o2_le_i, o2_gt_i, o2_ge_i, o2_is_n, o2_is_b, o2_isnot_n, o2_isnot_b, o2_eq_i, o2_eq_s, o2_eq_ns, o2_eq_b, o2_ne_b, o2_idx_t0, o2_idx_t1, o1_len_scr, o1_len_t, o1_len_l, o1_len_s, o1_not_b, o1_tuple_l, o1_list_t, o1_list_l, o1_rev_t, o1_neg_i, o1_int_b, isi_s, isi_i, isi_b, isi_n, isi_t, isi_l, isTy, isNone_n, isNone_b, isNone_i, isNone_s, isNone_t, isNone_l, isBool_b, Bool.not_true, Bool.not_false, eq_self, if_true, if_false, Bool.false_eq_true, reduceIte, beq_self_eq_true, q]) rfl rfl).trans ((seq_asg (by simp only [evalSs, evalS, evalE, evalEs, evalIT, Res.bind_ok, Res.bind_bad, Res.bind_exc, Res.tame_ok, Fl.go_next, Fl.go_ret, Fl.fin_next, Fl.fin_ret, slot_some, List.getElem?_cons_zero, List.getElem?_cons_succ, List.set_cons_zero, List.set_cons_succ, put_nm, put_tu, puts_nil, puts_cons, chainK_t, chainK_f, truth_bool, truth_none, truth_int, truth_list, truth_tuple, truth_str, o2_add_i, o2_sub_i, o2_lt_i, o2_le_i, o2_gt_i, o2_ge_i, o2_is_n, o2_is_b, o2_isnot_n, o2_isnot_b, o2_eq_i, o2_eq_s, o2_eq_ns, o2_eq_b, o2_ne_b, o2_idx_t0, o2_idx_t1, o1_len_scr, o1_len_t, o1_len_l, o1_len_s, o1_not_b, o1_tuple_l, o1_list_t, o1_list_l, o1_rev_t, o1_neg_i, o1_int_b, isi_s, isi_i, isi_b, isi_n, isi_t, isi_l, isTy, isNone_n, isNone_b, isNone_i, isNone_s, isNone_t, isNone_l, isBool_b, Bool.not_true, Bool.not_false, eq_self, if_true, if_false, Bool.false_eq_true, reduceIte, beq_self_eq_true] <;> rfl)).trans (seq_ret (by simp only [evalSs, evalS, evalE, evalEs, evalIT, Res.bind_ok, Res.bind_bad, Res.bind_exc, Res.tame_ok, Fl.go_next, Fl.go_ret, Fl.fin_next, Fl.fin_ret, slot_some, List.getElem?_cons_zero, List.getElem?_cons_succ, List.set_cons_zero, List.set_cons_succ, put_nm, put_tu, puts_nil, puts_cons, chainK_t, chainK_f, truth_bool, truth_none, truth_int, truth_list, truth_tuple, truth_str, o2_add_i, o2_sub_i, o2_lt_i, o2_le_i, o2_gt_i, o2_ge_i, o2_is_n, o2_is_b, o2_isnot_n, o2_isnot_b, o2_eq_i, o2_eq_s, o2_eq_ns, o2_eq_b, o2_ne_b, o2_idx_t0, o2_idx_t1, o1_len_scr, o1_len_t, o1_len_l, o1_len_s, o1_not_b, o1_tuple_l, o1_list_t, o1_list_l, o1_rev_t, o1_neg_i, o1_int_b, isi_s, isi_i, isi_b, isi_n, isi_t, isi_l, isTy, isNone_n, isNone_b, isNone_i, isNone_s, isNone_t, isNone_l, isBool_b, Bool.not_true, Bool.not_false, eq_self, if_true, if_false, Bool.false_eq_true, reduceIte, beq_self_eq_true, m9, hi] <;> rfl)))))))), sumG_2 hv a2 b2⟩
termination_by n => n
decreasing_by all_goals omega
structure QuestG (n : Nat) (d : D) : Prop where
  is : ∀ j, n ≤ j → isQuest j d = true
  fine : fine 10 d = true
  dep : PyData.depth d ≤ n + 3
theorem questG {n : Nat} {w : Str} {rest : List D} (hw : fine 10 (.str w) = true) (hl : rest.length ≤ 9) (hr : ∀ d ∈ rest, Tq.fine 10 d = true ∧ PyData.depth d ≤ n + 3) (h : ∀ j, n ≤ j → questT (isQuest j) w rest = true) : QuestG (n + 1) (.tuple (.str w :: rest)) := ⟨fun j hj => by
  cases j with
  | zero => omega
  | succ j => exact h j (by omega), by
  rw [fine_tuple]
  refine ⟨by rw [List.length_cons]; omega, fun d hd => ?_⟩
  rcases List.mem_cons.mp hd with rfl | hd
  · exact hw
  · exact (hr d hd).1, by
  refine depth_tup (n := n + 3) fun d hd => ?_
  rcases List.mem_cons.mp hd with rfl | hd
  · simp [PyData.depth]
  · exact (hr d hd).2⟩
theorem table_G (n : Nat) : ∀ x ∈ [w_a, w_b, w_house], QuestG (n + 1) (.tuple [.str w_table, .str x]) := fun x hx => by
  have hx10 : fine 10 (.str x) = true := fine_w10 x (by simp only [List.mem_append]; refine .inr ?_; simp only [List.mem_cons, List.not_mem_nil, or_false] at hx ⊢; rcases hx with h | h | h <;> simp [h])
  refine questG (fine_w10 w_table (by simp)) (by simp) (fun d hd => ?_) fun j _ => ?_
  · rw [List.mem_singleton] at hd; rw [hd]; exact ⟨hx10, by simp [PyData.depth]⟩
  · have : questT (isQuest j) w_table [.str x] = isName (.str x) := by kernel_rfl
    rw [this]
    have : ∀ x ∈ [w_a, w_b, w_house], isName (.str x) = true := by decide +kernel
    exact this x hx
def okPart (n : Nat) (d : D) : Prop := fine 10 d = true ∧ PyData.depth d ≤ n + 3
theorem okp {n : Nat} {d : D} (h1 : fine 10 d = true) (h2 : PyData.depth d ≤ 3) : okPart n d := ⟨h1, by omega⟩
theorem okq {n : Nat} {d : D} (h : QuestG n d) : okPart n d := ⟨h.fine, h.dep⟩
theorem all_ok {n : Nat} {ds : List D} (h : ∀ d ∈ ds, okPart n d) : ∀ d ∈ ds, Tq.fine 10 d = true ∧ PyData.depth d ≤ n + 3 := h
theorem six_G (n : Nat) (q : D) (hq : QuestG n q) (hs : D) (h1 : heapsOk hs = true) (h2 : fine 10 hs = true) (h3 : PyData.depth hs ≤ 3) : ∀ d ∈ [PyData.tuple [.str w_take, q, .tuple [.str w_a, .str w_b]], .tuple [.str w_name, q, .str w_a, .str w_b], .tuple [.str w_once, q], .tuple [.str w_first, q, .int 3], .tuple [.str w_group, q, .tuple [], hs], .tuple [.str w_sort, q, .tuple [.tuple [.str w_a, .str w_up], .tuple [.str w_b, .str w_down]]]], QuestG (n + 1) d := fun d hd => by
  have fw := fun x hx => fine_w10 x hx
  simp only [List.mem_cons, List.not_mem_nil, or_false] at hd
  rcases hd with rfl | rfl | rfl | rfl | rfl | rfl
  · refine questG (fw w_take (by simp)) (by simp) (fun d hd => ?_) fun j hj => ?_
    · simp only [List.mem_cons, List.not_mem_nil, or_false] at hd
      rcases hd with rfl | rfl
      · exact okq hq
      · exact okp (by decide +kernel) (by simp [PyData.depth, PyData.depthAll])
    · have : questT (isQuest j) w_take [q, .tuple [.str w_a, .str w_b]] = ((isQuest j q && true) && true) := by kernel_rfl
      rw [this, hq.is j hj]; rfl
  · refine questG (fw w_name (by simp)) (by simp) (fun d hd => ?_) fun j hj => ?_
    · simp only [List.mem_cons, List.not_mem_nil, or_false] at hd
      rcases hd with rfl | rfl | rfl
      · exact okq hq
      · exact okp (fw w_a (by simp)) (by simp [PyData.depth])
      · exact okp (fw w_b (by simp)) (by simp [PyData.depth])
    · have : questT (isQuest j) w_name [q, .str w_a, .str w_b] = ((isQuest j q && true) && true) := by kernel_rfl
      rw [this, hq.is j hj]; rfl
  · refine questG (fw w_once (by simp)) (by simp) (fun d hd => ?_) fun j hj => ?_
    · rw [List.mem_singleton] at hd; rw [hd]; exact okq hq
    · have : questT (isQuest j) w_once [q] = ((isQuest j q && true) && true) := by kernel_rfl
      rw [this, hq.is j hj]; rfl
  · refine questG (fw w_first (by simp)) (by simp) (fun d hd => ?_) fun j hj => ?_
    · simp only [List.mem_cons, List.not_mem_nil, or_false] at hd
      rcases hd with rfl | rfl
      · exact okq hq
      · exact okp (by decide +kernel) (by simp [PyData.depth])
    · have : questT (isQuest j) w_first [q, .int 3] = ((isQuest j q && true) && true) := by kernel_rfl
      rw [this, hq.is j hj]; rfl
  · refine questG (fw w_group (by simp)) (by simp) (fun d hd => ?_) fun j hj => ?_
    · simp only [List.mem_cons, List.not_mem_nil, or_false] at hd
      rcases hd with rfl | rfl | rfl
      · exact okq hq
      · exact okp (by decide +kernel) (by simp [PyData.depth, PyData.depthAll])
      · exact okp h2 h3
    · have : questT (isQuest j) w_group [q, .tuple [], hs] = ((isQuest j q && true) && heapsOk hs) := by kernel_rfl
      rw [this, hq.is j hj, h1]; rfl
  · refine questG (fw w_sort (by simp)) (by simp) (fun d hd => ?_) fun j hj => ?_
    · simp only [List.mem_cons, List.not_mem_nil, or_false] at hd
      rcases hd with rfl | rfl
      · exact okq hq
      · exact okp (by decide +kernel) (by simp [PyData.depth, PyData.depthAll])
    · have : questT (isQuest j) w_sort [q, .tuple [.tuple [.str w_a, .str w_up], .tuple [.str w_b, .str w_down]]] = ((isQuest j q && true) && true) := by kernel_rfl
      rw [this, hq.is j hj]; rfl
theorem four_G (n : Nat) (q r : D) (hq : QuestG n q) (hr : QuestG n r) (ps : D) (h1 : pairsOk ps = true) (h2 : fine 10 ps = true) (h3 : PyData.depth ps ≤ 3) : ∀ d ∈ [PyData.tuple [.str w_join, q, r, ps], .tuple [.str w_left, q, r, ps], .tuple [.str w_both, q, r], .tuple [.str w_minus, q, r]], QuestG (n + 1) d := fun d hd => by
  have fw := fun x hx => fine_w10 x hx
  simp only [List.mem_cons, List.not_mem_nil, or_false] at hd
  rcases hd with rfl | rfl | rfl | rfl
  · refine questG (fw w_join (by simp)) (by simp) (fun d hd => ?_) fun j hj => ?_
    · simp only [List.mem_cons, List.not_mem_nil, or_false] at hd
      rcases hd with rfl | rfl | rfl
      · exact okq hq
      · exact okq hr
      · exact okp h2 h3
    · have : questT (isQuest j) w_join [q, r, ps] = ((isQuest j q && (isQuest j r && true)) && pairsOk ps) := by kernel_rfl
      rw [this, hq.is j hj, hr.is j hj, h1]; rfl
  · refine questG (fw w_left (by simp)) (by simp) (fun d hd => ?_) fun j hj => ?_
    · simp only [List.mem_cons, List.not_mem_nil, or_false] at hd
      rcases hd with rfl | rfl | rfl
      · exact okq hq
      · exact okq hr
      · exact okp h2 h3
    · have : questT (isQuest j) w_left [q, r, ps] = ((isQuest j q && (isQuest j r && true)) && pairsOk ps) := by kernel_rfl
      rw [this, hq.is j hj, hr.is j hj, h1]; rfl
  · refine questG (fw w_both (by simp)) (by simp) (fun d hd => ?_) fun j hj => ?_
    · simp only [List.mem_cons, List.not_mem_nil, or_false] at hd
      rcases hd with rfl | rfl
      · exact okq hq
      · exact okq hr
    · have : questT (isQuest j) w_both [q, r] = ((isQuest j q && (isQuest j r && true)) && true) := by kernel_rfl
      rw [this, hq.is j hj, hr.is j hj]; rfl
  · refine questG (fw w_minus (by simp)) (by simp) (fun d hd => ?_) fun j hj => ?_
    · simp only [List.mem_cons, List.not_mem_nil, or_false] at hd
      rcases hd with rfl | rfl
      · exact okq hq
      · exact okq hr
    · have : questT (isQuest j) w_minus [q, r] = ((isQuest j q && (isQuest j r && true)) && true) := by kernel_rfl
      rw [this, hq.is j hj, hr.is j hj]; rfl
def heaps3 : List D := [.tuple [.str w_n, .str w_count, .none], .tuple [.str w_m, .str w_sum, .str w_a], .tuple [.str w_l, .str w_every, .str w_b]]
theorem heaps_ok (i : Nat) (h : i < 3) : heapsOk (.tuple (heaps3.drop i)) = true ∧ fine 10 (.tuple (heaps3.drop i)) = true ∧ PyData.depth (.tuple (heaps3.drop i)) ≤ 3 := by
  match i, h with
  | 0, _ => exact ⟨by decide +kernel, by decide +kernel, by simp [heaps3, PyData.depth, PyData.depthAll]⟩
  | 1, _ => exact ⟨by decide +kernel, by decide +kernel, by simp [heaps3, PyData.depth, PyData.depthAll]⟩
  | 2, _ => exact ⟨by decide +kernel, by decide +kernel, by simp [heaps3, PyData.depth, PyData.depthAll]⟩
def pairs2 : List D := [.tuple [.str w_a, .str w_b], .tuple [.str w_c, .str w_d]]
theorem pairs_ok (i : Nat) (h : i < 2) : pairsOk (.tuple (pairs2.take (i + 1))) = true ∧ fine 10 (.tuple (pairs2.take (i + 1))) = true ∧ PyData.depth (.tuple (pairs2.take (i + 1))) ≤ 3 := by
  match i, h with
  | 0, _ => exact ⟨by decide +kernel, by decide +kernel, by simp [pairs2, PyData.depth, PyData.depthAll]⟩
  | 1, _ => exact ⟨by decide +kernel, by decide +kernel, by simp [pairs2, PyData.depth, PyData.depthAll]⟩
theorem any_quest : ∀ (n k : Nat) (c dp : Int), dp = n + 1 → ∃ r, callF defs (n + k + 6) F.law_any_quest [.int c, .int dp] = .ok r ∧ QuestG (n + 1) r
  | n, k, c, dp, e => by
    rw [u_law_any_quest]
    have hm : ∀ p m : Int, 0 < p → p ≤ 10000 → 0 < m → callF defs (n + k + 5) F.law_mix [.int c, .int p, .int m] = .ok (.int (mix c p m)) := fun p m h1 h2 h3 => mix_eq (n + k + 4) c p m h1 h2 h3
    have hS : ∀ c : Int, ∃ r, callF defs (n + k + 5) F.law_any_sum [.int c, .int 3] = .ok r ∧ SumG 3 r := fun c => by
      obtain ⟨r, h1, h2⟩ := any_sum 2 (n + k + 1) c 3 (by omega)
      exact ⟨r, by rw [show n + k + 5 = 2 + (n + k + 1) + 2 by omega]; exact h1, h2⟩
    have ih : ∀ m : Nat, n = m + 1 → ∀ c : Int, ∃ r, callF defs (n + k + 5) F.law_any_quest [.int c, .int (dp - 1)] = .ok r ∧ QuestG (m + 1) r := fun m hn c => by
      obtain ⟨r, h1, h2⟩ := any_quest m k c (dp - 1) (by omega)
      exact ⟨r, by rw [show n + k + 5 = m + k + 6 by omega]; exact h1, h2⟩
    generalize callF defs (n + k + 5) = ρ at hm hS ih
    have mw := hm 9931 14 (by omega) (by omega) (by omega)
    have m3 := hm 9929 3 (by omega) (by omega) (by omega)
    have m2 := hm 9923 2 (by omega) (by omega) (by omega)
    have m7 := hm 9907 3 (by omega) (by omega) (by omega)
    have m1 := hm 9901 2 (by omega) (by omega) (by omega)
    obtain ⟨w0, w14⟩ := mix_range c 9931 (m := 14) (by omega)
    generalize mix c 9931 14 = w at mw w0 w14
    have e3 : op2 .mul (.int c) (.int 3) = .ok (.int (c * 3)) := o2_mul (mulOk_r (by omega) (by omega))
    by_cases leaf : dp = 1 ∨ w < 2
    · have cl : evalE ρ (.or_ (.o2 .eq (.var 1) (.int 1)) (.o2 .lt (.var 2) (.int 2))) [some (.int c), some (.int dp), some (.int w), none, none, none, none, none] = .ok (.bool true) := by
        by_cases q : dp = 1
        · have q' : (dp == 1) = true := by rw [beq_iff_eq]; exact q
          simp only [evalSs, evalS, evalE, evalEs, evalIT, Res.bind_ok, Res.bind_bad, Res.bind_exc, Res.tame_ok, Fl.go_next, Fl.go_ret, Fl.fin_next, Fl.fin_ret, slot_some, List.getElem?_cons_zero, List.getElem?_cons_succ, List.set_cons_zero, List.set_cons_succ, put_nm, put_tu, puts_nil, puts_cons, chainK_t, chainK_f, truth_bool, truth_none, truth_int, truth_list, truth_tuple, truth_str, o2_add_i, o2_sub_i, o2_lt_i, o2_le_i, o2_gt_i, o2_ge_i, o2_is_n, o2_is_b, o2_isnot_n, o2_isnot_b, o2_eq_i, o2_eq_s, o2_eq_ns, o2_eq_b, o2_ne_b, o2_idx_t0, o2_idx_t1, o1_len_scr, o1_len_t, o1_len_l, o1_len_s, o1_not_b, o1_tuple_l, o1_list_t, o1_list_l, o1_rev_t, o1_neg_i, o1_int_b, isi_s, isi_i, isi_b, isi_n, isi_t, isi_l, isTy, isNone_n, isNone_b, isNone_i, isNone_s, isNone_t, isNone_l, isBool_b, Bool.not_true, Bool.not_false, eq_self, if_true, if_false, Bool.false_eq_true, reduceIte, beq_self_eq_true, q']
        · have q' : (dp == 1) = false := beq_eq_false_iff_ne.mpr q
          simp only [evalSs, evalS, evalE, evalEs, evalIT, Res.bind_ok, Res.bind_bad, Res.bind_exc, Res.tame_ok, Fl.go_next, Fl.go_ret, Fl.fin_next, Fl.fin_ret, slot_some, List.getElem?_cons_zero, List.getElem?_cons_succ, List.set_cons_zero, List.set_cons_succ, put_nm, put_tu, puts_nil, puts_cons, chainK_t, chainK_f, truth_bool, truth_none, truth_int, truth_list, truth_tuple, truth_str, o2_add_i, o2_sub_i, o2_lt_i, o2_le_i, o2_gt_i, o2_ge_i, o2_is_n, o2_is_b, o2_isnot_n, o2_isnot_b, o2_eq_i, o2_eq_s, o2_eq_ns, o2_eq_b, o2_ne_b, o2_idx_t0, o2_idx_t1, o1_len_scr, o1_len_t, o1_len_l, o1_len_s, o1_not_b, o1_tuple_l, o1_list_t, o1_list_l, o1_rev_t, o1_neg_i, o1_int_b, isi_s, isi_i, isi_b, isi_n, isi_t, isi_l, isTy, isNone_n, isNone_b, isNone_i, isNone_s, isNone_t, isNone_l, isBool_b, Bool.not_true, Bool.not_false, eq_self, if_true, if_false, Bool.false_eq_true, reduceIte, beq_self_eq_true, q', decide_eq_true (leaf.resolve_left q)]
      obtain ⟨v, hv, hi⟩ := pick_w [w_a, w_b, w_house] c 9929 (by simp)
      have hi : op2 .idx (.tuple [.str w_a, .str w_b, .str w_house]) (.int (mix c 9929 3)) = .ok (.str v) := hi
      exact ⟨_, fin_of ((seq_asg (by simp only [evalSs, evalS, evalE, evalEs, evalIT, Res.bind_ok, Res.bind_bad, Res.bind_exc, Res.tame_ok, Fl.go_next, Fl.go_ret, Fl.fin_next, Fl.fin_ret, slot_some, List.getElem?_cons_zero, List.getElem?_cons_succ, List.set_cons_zero, List.set_cons_succ, put_nm, put_tu, puts_nil, puts_cons, chainK_t, chainK_f, truth_bool, truth_none, truth_int, truth_list, truth_tuple, truth_str, o2_add_i, o2_sub_i, o2_lt_i, o2_le_i, o2_gt_i, o2_ge_i, o2_is_n, o2_is_b, o2_isnot_n, o2_isnot_b, o2_eq_i, o2_eq_s, o2_eq_ns, o2_eq_b, o2_ne_b, o2_idx_t0, o2_idx_t1, o1_len_scr, o1_len_t, o1_len_l, o1_len_s, o1_not_b, o1_tuple_l, o1_list_t, o1_list_l, o1_rev_t, o1_neg_i, o1_int_b, isi_s, isi_i, isi_b, isi_n, isi_t, isi_l, isTy, isNone_n, isNone_b, isNone_i, isNone_s, isNone_t, isNone_l, isBool_b, Bool.not_true, Bool.not_false, eq_self, if_true, if_false, Bool.false_eq_true, reduceIte, beq_self_eq_true, mw] <;> rfl)).trans (seq_if_t cl rfl (seq_ret (by simp only [evalSs, evalS, evalE, evalEs, evalIT, Res.bind_ok, Res.bind_bad, Res.bind_exc, Res.tame_ok, Fl.go_next, Fl.go_ret, Fl.fin_next, Fl.fin_ret, slot_some, List.getElem?_cons_zero, List.getElem?_cons_succ, List.set_cons_zero, List.set_cons_succ, put_nm, put_tu, puts_nil, puts_cons, chainK_t, chainK_f, truth_bool, truth_none, truth_int, truth_list, truth_tuple, truth_str, o2_add_i, o2_sub_i, o2_lt_i, o2_le_i, o2_gt_i, o2_ge_i, o2_is_n, o2_is_b, o2_isnot_n, o2_isnot_b, o2_eq_i, o2_eq_s, o2_eq_ns, o2_eq_b, o2_ne_b, o2_idx_t0, o2_idx_t1, o1_len_scr, o1_len_t, o1_len_l, o1_len_s, o1_not_b, o1_tuple_l, o1_list_t, o1_list_l, o1_rev_t, o1_neg_i, o1_int_b, isi_s, isi_i, isi_b, isi_n, isi_t, isi_l, isTy, isNone_n, isNone_b, isNone_i, isNone_s, isNone_t, isNone_l, isBool_b, Bool.not_true, Bool.not_false, eq_self, if_true, if_false, Bool.false_eq_true, reduceIte, beq_self_eq_true, m3, hi] <;> rfl)))), table_G n v hv⟩
    · have l1 : ¬ dp = 1 := fun z => leaf (.inl z)
      have l2 : ¬ w < 2 := fun z => leaf (.inr z)
      have l1' : (dp == 1) = false := beq_eq_false_iff_ne.mpr l1
      cases n with
      | zero => omega
      | succ m =>
        obtain ⟨q, q1, q2⟩ := ih m rfl (c * 3 + 1)
        have start : ∀ {r : D}, evalSs ρ _ [some (.int c), some (.int dp), some (.int w), some q, none, none, none, none] = .ok (.ret r) → (evalSs ρ f_law_any_quest.body [some (.int c), some (.int dp), none, none, none, none, none, none]).bind Fl.fin = .ok r := fun {r} h => fin_of ((seq_asg (by simp only [evalSs, evalS, evalE, evalEs, evalIT, Res.bind_ok, Res.bind_bad, Res.bind_exc, Res.tame_ok, Fl.go_next, Fl.go_ret, Fl.fin_next, Fl.fin_ret, slot_some, List.getElem?_cons_zero, List.getElem?_cons_succ, List.set_cons_zero, List.set_cons_succ, put_nm, put_tu, puts_nil, puts_cons, chainK_t, chainK_f, truth_bool, truth_none, truth_int, truth_list, truth_tuple, truth_str, o2_add_i, o2_sub_i, o2_lt_i, o2_le_i, o2_gt_i, o2_ge_i, o2_is_n, o2_is_b, o2_isnot_n, o2_isnot_b, o2_eq_i, o2_eq_s, o2_eq_ns, o2_eq_b, o2_ne_b, o2_idx_t0, o2_idx_t1, o1_len_scr, o1_len_t, o1_len_l, o1_len_s, o1_not_b, o1_tuple_l, o1_list_t, o1_list_l, o1_rev_t, o1_neg_i, o1_int_b, isi_s, isi_i, isi_b, isi_n, isi_t, isi_l, isTy, isNone_n, isNone_b, isNone_i, isNone_s, isNone_t, isNone_l, isBool_b, Bool.not_true, Bool.not_false, eq_self, if_true, if_false, Bool.false_eq_true, reduceIte, beq_self_eq_true, mw] <;> rfl)).trans ((seq_if_f (d := .bool false) (by simp only [evalSs, evalS, evalE, evalEs, evalIT, Res.bind_ok, Res.bind_bad, Res.bind_exc, Res.tame_ok, Fl.go_next, Fl.go_ret, Fl.fin_next, Fl.fin_ret, slot_some, List.getElem?_cons_zero, List.getElem?_cons_succ, List.set_cons_zero, List.set_cons_succ, put_nm, put_tu, puts_nil, puts_cons, chainK_t, chainK_f, truth_bool, truth_none, truth_int, truth_list, truth_tuple, truth_str, o2_add_i, o2_sub_i, o2_lt_i, o2_le_i, o2_gt_i, o2_ge_i, o2_is_n, o2_is_b, o2_isnot_n, o2_isnot_b, o2_eq_i, o2_eq_s, o2_eq_ns, o2_eq_b, o2_ne_b, o2_idx_t0, o2_idx_t1, o1_len_scr, o1_len_t, o1_len_l, o1_len_s, o1_not_b, o1_tuple_l, o1_list_t, o1_list_l, o1_rev_t, o1_neg_i, o1_int_b, isi_s, isi_i, isi_b, isi_n, isi_t, isi_l, isTy, isNone_n, isNone_b, isNone_i, isNone_s, isNone_t, isNone_l, isBool_b, Bool.not_true, Bool.not_false, eq_self, if_true, if_false, Bool.false_eq_true, reduceIte, beq_self_eq_true, l1', decide_eq_false l2]) rfl rfl).trans ((seq_asg (d := q) (by simp only [evalSs, evalS, evalE, evalEs, evalIT, Res.bind_ok, Res.bind_bad, Res.bind_exc, Res.tame_ok, Fl.go_next, Fl.go_ret, Fl.fin_next, Fl.fin_ret, slot_some, List.getElem?_cons_zero, List.getElem?_cons_succ, List.set_cons_zero, List.set_cons_succ, put_nm, put_tu, puts_nil, puts_cons, chainK_t, chainK_f, truth_bool, truth_none, truth_int, truth_list, truth_tuple, truth_str, o2_add_i, o2_sub_i, o2_lt_i, o2_le_i, o2_gt_i, o2_ge_i, o2_is_n, o2_is_b, o2_isnot_n, o2_isnot_b, o2_eq_i, o2_eq_s, o2_eq_ns, o2_eq_b, o2_ne_b, o2_idx_t0, o2_idx_t1, o1_len_scr, o1_len_t, o1_len_l, o1_len_s, o1_not_b, o1_tuple_l, o1_list_t, o1_list_l, o1_rev_t, o1_neg_i, o1_int_b, isi_s, isi_i, isi_b, isi_n, isi_t, isi_l, isTy, isNone_n, isNone_b, isNone_i, isNone_s, isNone_t, isNone_l, isBool_b, Bool.not_true, Bool.not_false, eq_self, if_true, if_false, Bool.false_eq_true, reduceIte, beq_self_eq_true, e3, q1])).trans h)))
        by_cases h4 : w < 4
        · obtain ⟨s, s1, s2⟩ := hS (c + 3)
          refine ⟨_, start (seq_if_t (d := .bool true) (by simp only [evalSs, evalS, evalE, evalEs, evalIT, Res.bind_ok, Res.bind_bad, Res.bind_exc, Res.tame_ok, Fl.go_next, Fl.go_ret, Fl.fin_next, Fl.fin_ret, slot_some, List.getElem?_cons_zero, List.getElem?_cons_succ, List.set_cons_zero, List.set_cons_succ, put_nm, put_tu, puts_nil, puts_cons, chainK_t, chainK_f, truth_bool, truth_none, truth_int, truth_list, truth_tuple, truth_str, o2_add_i, o2_sub_i, o2_lt_i, o2_le_i, o2_gt_i, o2_ge_i, o2_is_n, o2_is_b, o2_isnot_n, o2_isnot_b, o2_eq_i, o2_eq_s, o2_eq_ns, o2_eq_b, o2_ne_b, o2_idx_t0, o2_idx_t1, o1_len_scr, o1_len_t, o1_len_l, o1_len_s, o1_not_b, o1_tuple_l, o1_list_t, o1_list_l, o1_rev_t, o1_neg_i, o1_int_b, isi_s, isi_i, isi_b, isi_n, isi_t, isi_l, isTy, isNone_n, isNone_b, isNone_i, isNone_s, isNone_t, isNone_l, isBool_b, Bool.not_true, Bool.not_false, eq_self, if_true, if_false, Bool.false_eq_true, reduceIte, beq_self_eq_true, decide_eq_true h4]) rfl (seq_ret (by simp only [evalSs, evalS, evalE, evalEs, evalIT, Res.bind_ok, Res.bind_bad, Res.bind_exc, Res.tame_ok, Fl.go_next, Fl.go_ret, Fl.fin_next, Fl.fin_ret, slot_some, List.getElem?_cons_zero, List.getElem?_cons_succ, List.set_cons_zero, List.set_cons_succ, put_nm, put_tu, puts_nil, puts_cons, chainK_t, chainK_f, truth_bool, truth_none, truth_int, truth_list, truth_tuple, truth_str, o2_add_i, o2_sub_i, o2_lt_i, o2_le_i, o2_gt_i, o2_ge_i, o2_is_n, o2_is_b, o2_isnot_n, o2_isnot_b, o2_eq_i, o2_eq_s, o2_eq_ns, o2_eq_b, o2_ne_b, o2_idx_t0, o2_idx_t1, o1_len_scr, o1_len_t, o1_len_l, o1_len_s, o1_not_b, o1_tuple_l, o1_list_t, o1_list_l, o1_rev_t, o1_neg_i, o1_int_b, isi_s, isi_i, isi_b, isi_n, isi_t, isi_l, isTy, isNone_n, isNone_b, isNone_i, isNone_s, isNone_t, isNone_l, isBool_b, Bool.not_true, Bool.not_false, eq_self, if_true, if_false, Bool.false_eq_true, reduceIte, beq_self_eq_true, s1] <;> rfl))), questG (fine_w10 w_where (by simp)) (by simp) (fun d hd => ?_) fun j hj => ?_⟩
          · simp only [List.mem_cons, List.not_mem_nil, or_false] at hd
            rcases hd with rfl | rfl
            · exact okq q2
            · exact okp s2.fine s2.dep
          · have : questT (isQuest j) w_where [q, s] = ((isQuest j q && true) && isSum 5 s) := by kernel_rfl
            rw [this, q2.is j hj, s2.is 5 (by omega)]; rfl
        by_cases h44 : w = 4
        · have b4 : (w == 4) = true := by rw [beq_iff_eq]; exact h44
          obtain ⟨s, s1, s2⟩ := hS (c + 3)
          refine ⟨_, start ((seq_if_f (d := .bool false) (by simp only [evalSs, evalS, evalE, evalEs, evalIT, Res.bind_ok, Res.bind_bad, Res.bind_exc, Res.tame_ok, Fl.go_next, Fl.go_ret, Fl.fin_next, Fl.fin_ret, slot_some, List.getElem?_cons_zero, List.getElem?_cons_succ, List.set_cons_zero, List.set_cons_succ, put_nm, put_tu, puts_nil, puts_cons, chainK_t, chainK_f, truth_bool, truth_none, truth_int, truth_list, truth_tuple, truth_str, o2_add_i, o2_sub_i, o2_lt_i, o2_le_i, o2_gt_i, o2_ge_i, o2_is_n, o2_is_b, o2_isnot_n, o2_isnot_b, o2_eq_i, o2_eq_s, o2_eq_ns, o2_eq_b, o2_ne_b, o2_idx_t0, o2_idx_t1, o1_len_scr, o1_len_t, o1_len_l, o1_len_s, o1_not_b, o1_tuple_l, o1_list_t, o1_list_l, o1_rev_t, o1_neg_i, o1_int_b, isi_s, isi_i, isi_b, isi_n, isi_t, isi_l, isTy, isNone_n, isNone_b, isNone_i, isNone_s, isNone_t, isNone_l, isBool_b, Bool.not_true, Bool.not_false, eq_self, if_true, if_false, Bool.false_eq_true, reduceIte, beq_self_eq_true, decide_eq_false h4]) rfl rfl).trans (seq_if_t (d := .bool true) (by simp only [evalSs, evalS, evalE, evalEs, evalIT, Res.bind_ok, Res.bind_bad, Res.bind_exc, Res.tame_ok, Fl.go_next, Fl.go_ret, Fl.fin_next, Fl.fin_ret, slot_some, List.getElem?_cons_zero, List.getElem?_cons_succ, List.set_cons_zero, List.set_cons_succ, put_nm, put_tu, puts_nil, puts_cons, chainK_t, chainK_f, truth_bool, truth_none, truth_int, truth_list, truth_tuple, truth_str, o2_add_i, o2_sub_i, o2_lt_i, o2_le_i, o2_gt_i, o2_ge_i, o2_is_n, o2_is_b, o2_isnot_n, o2_isnot_b, o2_eq_i, o2_eq_s, o2_eq_ns, o2_eq_b, o2_ne_b, o2_idx_t0, o2_idx_t1, o1_len_scr, o1_len_t, o1_len_l, o1_len_s, o1_not_b, o1_tuple_l, o1_list_t, o1_list_l, o1_rev_t, o1_neg_i, o1_int_b, isi_s, isi_i, isi_b, isi_n, isi_t, isi_l, isTy, isNone_n, isNone_b, isNone_i, isNone_s, isNone_t, isNone_l, isBool_b, Bool.not_true, Bool.not_false, eq_self, if_true, if_false, Bool.false_eq_true, reduceIte, beq_self_eq_true, b4]) rfl (seq_ret (by simp only [evalSs, evalS, evalE, evalEs, evalIT, Res.bind_ok, Res.bind_bad, Res.bind_exc, Res.tame_ok, Fl.go_next, Fl.go_ret, Fl.fin_next, Fl.fin_ret, slot_some, List.getElem?_cons_zero, List.getElem?_cons_succ, List.set_cons_zero, List.set_cons_succ, put_nm, put_tu, puts_nil, puts_cons, chainK_t, chainK_f, truth_bool, truth_none, truth_int, truth_list, truth_tuple, truth_str, o2_add_i, o2_sub_i, o2_lt_i, o2_le_i, o2_gt_i, o2_ge_i, o2_is_n, o2_is_b, o2_isnot_n, o2_isnot_b, o2_eq_i, o2_eq_s, o2_eq_ns, o2_eq_b, o2_ne_b, o2_idx_t0, o2_idx_t1, o1_len_scr, o1_len_t, o1_len_l, o1_len_s, o1_not_b, o1_tuple_l, o1_list_t, o1_list_l, o1_rev_t, o1_neg_i, o1_int_b, isi_s, isi_i, isi_b, isi_n, isi_t, isi_l, isTy, isNone_n, isNone_b, isNone_i, isNone_s, isNone_t, isNone_l, isBool_b, Bool.not_true, Bool.not_false, eq_self, if_true, if_false, Bool.false_eq_true, reduceIte, beq_self_eq_true, s1] <;> rfl)))), questG (fine_w10 w_add (by simp)) (by simp) (fun d hd => ?_) fun j hj => ?_⟩
          · simp only [List.mem_cons, List.not_mem_nil, or_false] at hd
            rcases hd with rfl | rfl | rfl
            · exact okq q2
            · exact okp (fine_w10 w_new (by simp)) (by simp [PyData.depth])
            · exact okp s2.fine s2.dep
          · have : questT (isQuest j) w_add [q, .str w_new, s] = ((isQuest j q && true) && isSum 5 s) := by kernel_rfl
            rw [this, q2.is j hj, s2.is 5 (by omega)]; rfl
        have b4 : (w == 4) = false := beq_eq_false_iff_ne.mpr h44
        by_cases h9 : 9 < w
        · obtain ⟨r, r1, r2⟩ := ih m rfl (c * 3 + 2)
          obtain ⟨i0, i1⟩ := mix_range c 9923 (m := 2) (by omega)
          obtain ⟨p1, p2, p3⟩ := pairs_ok (mix c 9923 2).toNat (by omega)
          have sl : op3 .sl (.tuple [.tuple [.str w_a, .str w_b], .tuple [.str w_c, .str w_d]]) .none (.int (1 + mix c 9923 2)) = .ok (.tuple (pairs2.take ((mix c 9923 2).toNat + 1))) := by
            rw [o3_sl_t _ _ _ bound_n (bound_i _), cut_to _ _ (by omega), show (1 + mix c 9923 2).toNat = (mix c 9923 2).toNat + 1 by omega]; rfl
          have mo : op2 .mod (.int w) (.int 4) = .ok (.int (w % 4)) := o2_mod (by omega)
          generalize PyData.tuple (pairs2.take ((mix c 9923 2).toNat + 1)) = ps at sl p1 p2 p3
          obtain ⟨x, hx, ha, _⟩ := atI_in (xs := [PyData.tuple [.str w_join, q, r, ps], .tuple [.str w_left, q, r, ps], .tuple [.str w_both, q, r], .tuple [.str w_minus, q, r]]) (i := w % 4) (by omega) (by simp; omega)
          have hi := o2_idx_t ha
          exact ⟨x, start ((seq_if_f (d := .bool false) (by simp only [evalSs, evalS, evalE, evalEs, evalIT, Res.bind_ok, Res.bind_bad, Res.bind_exc, Res.tame_ok, Fl.go_next, Fl.go_ret, Fl.fin_next, Fl.fin_ret, slot_some, List.getElem?_cons_zero, List.getElem?_cons_succ, List.set_cons_zero, List.set_cons_succ, put_nm, put_tu, puts_nil, puts_cons, chainK_t, chainK_f, truth_bool, truth_none, truth_int, truth_list, truth_tuple, truth_str, o2_add_i, o2_sub_i, o2_lt_i, o2_le_i, o2_gt_i, o2_ge_i, o2_is_n, o2_is_b, o2_isnot_n, o2_isnot_b, o2_eq_i, o2_eq_s, o2_eq_ns, o2_eq_b, o2_ne_b, o2_idx_t0, o2_idx_t1, o1_len_scr, o1_len_t, o1_len_l, o1_len_s, o1_not_b, o1_tuple_l, o1_list_t, o1_list_l, o1_rev_t, o1_neg_i, o1_int_b, isi_s, isi_i, isi_b, isi_n, isi_t, isi_l, isTy, isNone_n, isNone_b, isNone_i, isNone_s, isNone_t, isNone_l, isBool_b, Bool.not_true, Bool.not_false, eq_self, if_true, if_false, Bool.false_eq_true, reduceIte, beq_self_eq_true, decide_eq_false h4]) rfl rfl).trans ((seq_if_f (d := .bool false) (by simp only [evalSs, evalS, evalE, evalEs, evalIT, Res.bind_ok, Res.bind_bad, Res.bind_exc, Res.tame_ok, Fl.go_next, Fl.go_ret, Fl.fin_next, Fl.fin_ret, slot_some, List.getElem?_cons_zero, List.getElem?_cons_succ, List.set_cons_zero, List.set_cons_succ, put_nm, put_tu, puts_nil, puts_cons, chainK_t, chainK_f, truth_bool, truth_none, truth_int, truth_list, truth_tuple, truth_str, o2_add_i, o2_sub_i, o2_lt_i, o2_le_i, o2_gt_i, o2_ge_i, o2_is_n, o2_is_b, o2_isnot_n, o2_isnot_b, o2_eq_i, o2_eq_s, o2_eq_ns, o2_eq_b, o2_ne_b, o2_idx_t0, o2_idx_t1, o1_len_scr, o1_len_t, o1_len_l, o1_len_s, o1_not_b, o1_tuple_l, o1_list_t, o1_list_l, o1_rev_t, o1_neg_i, o1_int_b, isi_s, isi_i, isi_b, isi_n, isi_t, isi_l, isTy, isNone_n, isNone_b, isNone_i, isNone_s, isNone_t, isNone_l, isBool_b, Bool.not_true, Bool.not_false, eq_self, if_true, if_false, Bool.false_eq_true, reduceIte, beq_self_eq_true, b4]) rfl rfl).trans (seq_if_t (d := .bool true) (by simp only [evalSs, evalS, evalE, evalEs, evalIT, Res.bind_ok, Res.bind_bad, Res.bind_exc, Res.tame_ok, Fl.go_next, Fl.go_ret, Fl.fin_next, Fl.fin_ret, slot_some, List.getElem?_cons_zero, List.getElem?_cons_succ, List.set_cons_zero, List.set_cons_succ, put_nm, put_tu, puts_nil, puts_cons, chainK_t, chainK_f, truth_bool, truth_none, truth_int, truth_list, truth_tuple, truth_str, o2_add_i, o2_sub_i, o2_lt_i, o2_le_i, o2_gt_i, o2_ge_i, o2_is_n, o2_is_b, o2_isnot_n, o2_isnot_b, o2_eq_i, o2_eq_s, o2_eq_ns, o2_eq_b, o2_ne_b, o2_idx_t0, o2_idx_t1, o1_len_scr, o1_len_t, o1_len_l, o1_len_s, o1_not_b, o1_tuple_l, o1_list_t, o1_list_l, o1_rev_t, o1_neg_i, o1_int_b, isi_s, isi_i, isi_b, isi_n, isi_t, isi_l, isTy, isNone_n, isNone_b, isNone_i, isNone_s, isNone_t, isNone_l, isBool_b, Bool.not_true, Bool.not_false, eq_self, if_true, if_false, Bool.false_eq_true, reduceIte, beq_self_eq_true, decide_eq_true h9]) rfl ((seq_asg (d := r) (by simp only [evalSs, evalS, evalE, evalEs, evalIT, Res.bind_ok, Res.bind_bad, Res.bind_exc, Res.tame_ok, Fl.go_next, Fl.go_ret, Fl.fin_next, Fl.fin_ret, slot_some, List.getElem?_cons_zero, List.getElem?_cons_succ, List.set_cons_zero, List.set_cons_succ, put_nm, put_tu, puts_nil, puts_cons, chainK_t, chainK_f, truth_bool, truth_none, truth_int, truth_list, truth_tuple, truth_str, o2_add_i, o2_sub_i, o2_lt_i, o2_le_i, o2_gt_i, o2_ge_i, o2_is_n, o2_is_b, o2_isnot_n, o2_isnot_b, o2_eq_i, o2_eq_s, o2_eq_ns, o2_eq_b, o2_ne_b, o2_idx_t0, o2_idx_t1, o1_len_scr, o1_len_t, o1_len_l, o1_len_s, o1_not_b, o1_tuple_l, o1_list_t, o1_list_l, o1_rev_t, o1_neg_i, o1_int_b, isi_s, isi_i, isi_b, isi_n, isi_t, isi_l, isTy, isNone_n, isNone_b, isNone_i, isNone_s, isNone_t, isNone_l, isBool_b, Bool.not_true, Bool.not_false, eq_self, if_true, if_false, Bool.false_eq_true, reduceIte, beq_self_eq_true, e3, r1])).trans ((seq_asg (d := ps) (by simp only [evalSs, evalS, evalE, evalEs, evalIT, Res.bind_ok, Res.bind_bad, Res.bind_exc, Res.tame_ok, Fl.go_next, Fl.go_ret, Fl.fin_next, Fl.fin_ret, slot_some, List.getElem?_cons_zero, List.getElem?_cons_succ, List.set_cons_zero, List.set_cons_succ, put_nm, put_tu, puts_nil, puts_cons, chainK_t, chainK_f, truth_bool, truth_none, truth_int, truth_list, truth_tuple, truth_str, o2_add_i, o2_sub_i, o2_lt_i, o2_le_i, o2_gt_i, o2_ge_i, o2_is_n, o2_is_b, o2_isnot_n, o2_isnot_b, o2_eq_i, o2_eq_s, o2_eq_ns, o2_eq_b, o2_ne_b, o2_idx_t0, o2_idx_t1, o1_len_scr, o1_len_t, o1_len_l, o1_len_s, o1_not_b, o1_tuple_l, o1_list_t, o1_list_l, o1_rev_t, o1_neg_i, o1_int_b, isi_s, isi_i, isi_b, isi_n, isi_t, isi_l, isTy, isNone_n, isNone_b, isNone_i, isNone_s, isNone_t, isNone_l, isBool_b, Bool.not_true, Bool.not_false, eq_self, if_true, if_false, Bool.false_eq_true, reduceIte, beq_self_eq_true, m2, sl])).trans (seq_ret (by simp only [evalSs, evalS, evalE, evalEs, evalIT, Res.bind_ok, Res.bind_bad, Res.bind_exc, Res.tame_ok, Fl.go_next, Fl.go_ret, Fl.fin_next, Fl.fin_ret, slot_some, List.getElem?_cons_zero, List.getElem?_cons_succ, List.set_cons_zero, List.set_cons_succ, put_nm, put_tu, puts_nil, puts_cons, chainK_t, chainK_f, truth_bool, truth_none, truth_int, truth_list, truth_tuple, truth_str, o2_add_i, o2_sub_i, o2_lt_i, o2_le_i, o2_gt_i, o2_ge_i, o2_is_n, o2_is_b, o2_isnot_n, o2_isnot_b, o2_eq_i, o2_eq_s, o2_eq_ns, o2_eq_b, o2_ne_b, o2_idx_t0, o2_idx_t1, o1_len_scr, o1_len_t, o1_len_l, o1_len_s, o1_not_b, o1_tuple_l, o1_list_t, o1_list_l, o1_rev_t, o1_neg_i, o1_int_b, isi_s, isi_i, isi_b, isi_n, isi_t, isi_l, isTy, isNone_n, isNone_b, isNone_i, isNone_s, isNone_t, isNone_l, isBool_b, Bool.not_true, Bool.not_false, eq_self, if_true, if_false, Bool.false_eq_true, reduceIte, beq_self_eq_true, mo, hi]))))))), four_G (m + 1) q r q2 r2 ps p1 p2 p3 x hx⟩
        · obtain ⟨i0, i1⟩ := mix_range c 9907 (m := 3) (by omega)
          obtain ⟨j0, j1⟩ := mix_range c 9901 (m := 2) (by omega)
          obtain ⟨p1, p2, p3⟩ := heaps_ok (mix c 9907 3).toNat (by omega)
          have sl : op3 .sl (.tuple [.tuple [.str w_n, .str w_count, .none], .tuple [.str w_m, .str w_sum, .str w_a], .tuple [.str w_l, .str w_every, .str w_b]]) (.int (mix c 9907 3)) .none = .ok (.tuple (heaps3.drop (mix c 9907 3).toNat)) := by
            rw [o3_sl_t _ _ _ (bound_i _) bound_n, cut_from _ _ i0]; rfl
          generalize PyData.tuple (heaps3.drop (mix c 9907 3).toNat) = hs at sl p1 p2 p3
          have ad : op2 .add (.tuple [.tuple [.str w_take, q, .tuple [.str w_a, .str w_b]], .tuple [.str w_name, q, .str w_a, .str w_b], .tuple [.str w_once, q], .tuple [.str w_first, q, .int 3], .tuple [.str w_group, q, .tuple [], hs]]) (.tuple [.tuple [.str w_sort, q, .tuple [.tuple [.str w_a, .str w_up], .tuple [.str w_b, .str w_down]]]]) = .ok (.tuple [.tuple [.str w_take, q, .tuple [.str w_a, .str w_b]], .tuple [.str w_name, q, .str w_a, .str w_b], .tuple [.str w_once, q], .tuple [.str w_first, q, .int 3], .tuple [.str w_group, q, .tuple [], hs], .tuple [.str w_sort, q, .tuple [.tuple [.str w_a, .str w_up], .tuple [.str w_b, .str w_down]]]]) := o2_add_t (by simp)
          obtain ⟨x, hx, ha, _⟩ := atI_in (xs := [PyData.tuple [.str w_take, q, .tuple [.str w_a, .str w_b]], .tuple [.str w_name, q, .str w_a, .str w_b], .tuple [.str w_once, q], .tuple [.str w_first, q, .int 3], .tuple [.str w_group, q, .tuple [], hs], .tuple [.str w_sort, q, .tuple [.tuple [.str w_a, .str w_up], .tuple [.str w_b, .str w_down]]]]) (i := w - 5 + mix c 9901 2) (by omega) (by simp; omega)
          have hi := o2_idx_t ha
          exact ⟨x, start ((seq_if_f (d := .bool false) (by simp only [evalSs, evalS, evalE, evalEs, evalIT, Res.bind_ok, Res.bind_bad, Res.bind_exc, Res.tame_ok, Fl.go_next, Fl.go_ret, Fl.fin_next, Fl.fin_ret, slot_some, List.getElem?_cons_zero, List.getElem?_cons_succ, List.set_cons_zero, List.set_cons_succ, put_nm, put_tu, puts_nil, puts_cons, chainK_t, chainK_f, truth_bool, truth_none, truth_int, truth_list, truth_tuple, truth_str, o2_add_i, o2_sub_i, o2_lt_i, o2_le_i, o2_gt_i, o2_ge_i, o2_is_n, o2_is_b, o2_isnot_n, o2_isnot_b, o2_eq_i, o2_eq_s, o2_eq_ns, o2_eq_b, o2_ne_b, o2_idx_t0, o2_idx_t1, o1_len_scr, o1_len_t, o1_len_l, o1_len_s, o1_not_b, o1_tuple_l, o1_list_t, o1_list_l, o1_rev_t, o1_neg_i, o1_int_b, isi_s, isi_i, isi_b, isi_n, isi_t, isi_l, isTy, isNone_n, isNone_b, isNone_i, isNone_s, isNone_t, isNone_l, isBool_b, Bool.not_true, Bool.not_false, eq_self, if_true, if_false, Bool.false_eq_true, reduceIte, beq_self_eq_true, decide_eq_false h4]) rfl rfl).trans ((seq_if_f (d := .bool false) (by simp only [evalSs, evalS, evalE, evalEs, evalIT, Res.bind_ok, Res.bind_bad, Res.bind_exc, Res.tame_ok, Fl.go_next, Fl.go_ret, Fl.fin_next, Fl.fin_ret, slot_some, List.getElem?_cons_zero, List.getElem?_cons_succ, List.set_cons_zero, List.set_cons_succ, put_nm, put_tu, puts_nil, puts_cons, chainK_t, chainK_f, truth_bool, truth_none, truth_int, truth_list, truth_tuple, truth_str, o2_add_i, o2_sub_i, o2_lt_i, o2_le_i, o2_gt_i, o2_ge_i, o2_is_n, o2_is_b, o2_isnot_n, o2_isnot_b, o2_eq_i, o2_eq_s, o2_eq_ns, o2_eq_b, o2_ne_b, o2_idx_t0, o2_idx_t1, o1_len_scr, o1_len_t, o1_len_l, o1_len_s, o1_not_b, o1_tuple_l, o1_list_t, o1_list_l, o1_rev_t, o1_neg_i, o1_int_b, isi_s, isi_i, isi_b, isi_n, isi_t, isi_l, isTy, isNone_n, isNone_b, isNone_i, isNone_s, isNone_t, isNone_l, isBool_b, Bool.not_true, Bool.not_false, eq_self, if_true, if_false, Bool.false_eq_true, reduceIte, beq_self_eq_true, b4]) rfl rfl).trans ((seq_if_f (d := .bool false) (by simp only [evalSs, evalS, evalE, evalEs, evalIT, Res.bind_ok, Res.bind_bad, Res.bind_exc, Res.tame_ok, Fl.go_next, Fl.go_ret, Fl.fin_next, Fl.fin_ret, slot_some, List.getElem?_cons_zero, List.getElem?_cons_succ, List.set_cons_zero, List.set_cons_succ, put_nm, put_tu, puts_nil, puts_cons, chainK_t, chainK_f, truth_bool, truth_none, truth_int, truth_list, truth_tuple, truth_str, o2_add_i, o2_sub_i, o2_lt_i, o2_le_i, o2_gt_i, o2_ge_i, o2_is_n, o2_is_b, o2_isnot_n, o2_isnot_b, o2_eq_i, o2_eq_s, o2_eq_ns, o2_eq_b, o2_ne_b, o2_idx_t0, o2_idx_t1, o1_len_scr, o1_len_t, o1_len_l, o1_len_s, o1_not_b, o1_tuple_l, o1_list_t, o1_list_l, o1_rev_t, o1_neg_i, o1_int_b, isi_s, isi_i, isi_b, isi_n, isi_t, isi_l, isTy, isNone_n, isNone_b, isNone_i, isNone_s, isNone_t, isNone_l, isBool_b, Bool.not_true, Bool.not_false, eq_self, if_true, if_false, Bool.false_eq_true, reduceIte, beq_self_eq_true, decide_eq_false h9]) rfl rfl).trans ((seq_asg (d := hs) (by simp only [evalSs, evalS, evalE, evalEs, evalIT, Res.bind_ok, Res.bind_bad, Res.bind_exc, Res.tame_ok, Fl.go_next, Fl.go_ret, Fl.fin_next, Fl.fin_ret, slot_some, List.getElem?_cons_zero, List.getElem?_cons_succ, List.set_cons_zero, List.set_cons_succ, put_nm, put_tu, puts_nil, puts_cons, chainK_t, chainK_f, truth_bool, truth_none, truth_int, truth_list, truth_tuple, truth_str, o2_add_i, o2_sub_i, o2_lt_i, o2_le_i, o2_gt_i, o2_ge_i, o2_is_n, o2_is_b, o2_isnot_n, o2_isnot_b, o2_eq_i, o2_eq_s, o2_eq_ns, o2_eq_b, o2_ne_b, o2_idx_t0, o2_idx_t1, o1_len_scr, o1_len_t, o1_len_l, o1_len_s, o1_not_b, o1_tuple_l, o1_list_t, o1_list_l, o1_rev_t, o1_neg_i, o1_int_b, isi_s, isi_i, isi_b, isi_n, isi_t, isi_l, isTy, isNone_n, isNone_b, isNone_i, isNone_s, isNone_t, isNone_l, isBool_b, Bool.not_true, Bool.not_false, eq_self, if_true, if_false, Bool.false_eq_true, reduceIte, beq_self_eq_true, m7, sl])).trans ((seq_asg (by simp only [evalSs, evalS, evalE, evalEs, evalIT, Res.bind_ok, Res.bind_bad, Res.bind_exc, Res.tame_ok, Fl.go_next, Fl.go_ret, Fl.fin_next, Fl.fin_ret, slot_some, List.getElem?_cons_zero, List.getElem?_cons_succ, List.set_cons_zero, List.set_cons_succ, put_nm, put_tu, puts_nil, puts_cons, chainK_t, chainK_f, truth_bool, truth_none, truth_int, truth_list, truth_tuple, truth_str, o2_add_i, o2_sub_i, o2_lt_i, o2_le_i, o2_gt_i, o2_ge_i, o2_is_n, o2_is_b, o2_isnot_n, o2_isnot_b, o2_eq_i, o2_eq_s, o2_eq_ns, o2_eq_b, o2_ne_b, o2_idx_t0, o2_idx_t1, o1_len_scr, o1_len_t, o1_len_l, o1_len_s, o1_not_b, o1_tuple_l, o1_list_t, o1_list_l, o1_rev_t, o1_neg_i, o1_int_b, isi_s, isi_i, isi_b, isi_n, isi_t, isi_l, isTy, isNone_n, isNone_b, isNone_i, isNone_s, isNone_t, isNone_l, isBool_b, Bool.not_true, Bool.not_false, eq_self, if_true, if_false, Bool.false_eq_true, reduceIte, beq_self_eq_true] <;> rfl)).trans (seq_ret (by simp only [evalSs, evalS, evalE, evalEs, evalIT, Res.bind_ok, Res.bind_bad, Res.bind_exc, Res.tame_ok, Fl.go_next, Fl.go_ret, Fl.fin_next, Fl.fin_ret, slot_some, List.getElem?_cons_zero, List.getElem?_cons_succ, List.set_cons_zero, List.set_cons_succ, put_nm, put_tu, puts_nil, puts_cons, chainK_t, chainK_f, truth_bool, truth_none, truth_int, truth_list, truth_tuple, truth_str, o2_add_i, o2_sub_i, o2_lt_i, o2_le_i, o2_gt_i, o2_ge_i, o2_is_n, o2_is_b, o2_isnot_n, o2_isnot_b, o2_eq_i, o2_eq_s, o2_eq_ns, o2_eq_b, o2_ne_b, o2_idx_t0, o2_idx_t1, o1_len_scr, o1_len_t, o1_len_l, o1_len_s, o1_not_b, o1_tuple_l, o1_list_t, o1_list_l, o1_rev_t, o1_neg_i, o1_int_b, isi_s, isi_i, isi_b, isi_n, isi_t, isi_l, isTy, isNone_n, isNone_b, isNone_i, isNone_s, isNone_t, isNone_l, isBool_b, Bool.not_true, Bool.not_false, eq_self, if_true, if_false, Bool.false_eq_true, reduceIte, beq_self_eq_true, ad, m1, hi]))))))), six_G (m + 1) q q2 hs p1 p2 p3 x hx⟩
termination_by n => n
decreasing_by all_goals omega
theorem law_true (ns : List Int) (hns : ns.length ≤ 63) : callF defs deep F.law [scrD (ns.map PyData.int)] = .ok (.bool true) := by
  show callF defs (199 + 1) F.law _ = _
  rw [u_law]
  have hcell : ∀ k : Int, 0 ≤ k → callF defs 199 F.law_cell [scrD (ns.map PyData.int), .int k] = .ok (.int (cellOf ns k)) := fun k hk => cell_eq 198 ns k hk
  have hquest : ∀ c : Int, ∃ r, callF defs 199 F.law_any_quest [.int c, .int 6] = .ok r ∧ QuestG 6 r := fun c => any_quest 5 188 c 6 (by omega)
  have hodd : ∀ (d : D) (c : Int), fine 10 d = true → PyData.depth d ≤ 20 → ∃ r, callF defs 199 F.law_odd [d, .int c] = .ok r ∧ fine 20 r = true := fun d c h1 h2 => odd_eq 197 10 d c (by omega) (by omega) h1 (by omega)
  have hT : ∀ d : D, fine 1000 d = true → callF defs 199 F.is_quest [d] = .ok (.bool (isQuest 6 d)) := fun d h => is_quest_eq 182 d h
  have hT2 : ∀ d : D, fine 1000 d = true → callF defs 199 F.law_is_quest [d, .int 6] = .ok (.bool (isQuest 6 d)) := fun d h => quest_told 6 183 d 6 rfl h
  generalize callF defs 199 = ρ at hcell hquest hodd hT hT2 ⊢
  have ni : ∀ b : Bool, op2 .notin (.bool b) (.tuple [.bool true, .bool false]) = .ok (.bool false) := fun b => by
    rw [o2_notin (inOk_flat (by simp [noDict]) (by simp [noDicts, noDict]) (by simp [PyData.depthAll, PyData.depth]))]
    cases b <;> simp [PyData.eqv]
  have r6 : rng1D (.int 6) = .ok (rangeD 0 6) := rng1_ok (by omega) (by omega)
  have r30 : rng1D (.int 30) = .ok (rangeD 0 30) := rng1_ok (by omega) (by omega)
  obtain ⟨e, l1, o1, o2, o3, o4, rfl⟩ := forD_inv (f := fun d e => ((Tg.nm 1).put d e).bind fun e' => evalSs ρ b_law_2 e') (fun env => ∃ o1 o2 o3 o4 : Option D, env = [some (scrD (ns.map PyData.int)), o1, o2, o3, o4]) (ds := rangeD 0 6) (env := [some (scrD (ns.map PyData.int)), none, none, none, none]) (fun x hx env pe => by
    obtain ⟨o1, o2, o3, o4, rfl⟩ := pe
    obtain ⟨k, rfl, k0, k1⟩ := mem_range hx
    have c1 := hcell k k0
    have e7 : op2 .mul (.int 7) (.int k) = .ok (.int (7 * k)) := o2_mul (mulOk_l (by omega) (by omega))
    obtain ⟨one, h1, h2⟩ := hquest (cellOf ns k + 7 * k)
    have t1 := hT one (fine_mono (by omega) _ h2.fine)
    rw [h2.is 6 (by omega)] at t1
    have dep := h2.dep
    obtain ⟨e, l2, q3, q4, rfl⟩ := forD_inv (f := fun d e => ((Tg.nm 3).put d e).bind fun e' => evalSs ρ b_law_0 e') (fun env => ∃ q3 q4 : Option D, env = [some (scrD (ns.map PyData.int)), some (.int k), some one, q3, q4]) (ds := rangeD 0 30) (env := [some (scrD (ns.map PyData.int)), some (.int k), some one, o3, o4]) (fun x hx env pe => by
      obtain ⟨q3, q4, rfl⟩ := pe
      obtain ⟨j, rfl, j0, j1⟩ := mem_range hx
      have h2' : op2 .mod (.int j) (.int 2) = .ok (.int (j % 2)) := o2_mod (by omega)
      have c2 := hcell (8 + j % 2) (by omega)
      have e17 : op2 .mul (.int 17) (.int j) = .ok (.int (17 * j)) := o2_mul (mulOk_l (by omega) (by omega))
      obtain ⟨r, hr, hf⟩ := hodd one (cellOf ns (8 + j % 2) + 17 * j + k) h2.fine (by omega)
      have fr := fine_mono (show 20 ≤ 1000 by omega) _ hf
      have t2 := hT r fr
      have t3 := hT2 r fr
      refine ⟨_, ?_, some (.int j), some r, rfl⟩
      unfold b_law_0
      simp only [evalSs, evalS, evalE, evalEs, evalIT, Res.bind_ok, Res.bind_bad, Res.bind_exc, Res.tame_ok, Fl.go_next, Fl.go_ret, Fl.fin_next, Fl.fin_ret, slot_some, List.getElem?_cons_zero, List.getElem?_cons_succ, List.set_cons_zero, List.set_cons_succ, put_nm, put_tu, puts_nil, puts_cons, chainK_t, chainK_f, truth_bool, truth_none, truth_int, truth_list, truth_tuple, truth_str, o2_add_i, o2_sub_i, o2_lt_i, o2_le_i, o2_gt_i, o2_ge_i, o2_is_n, o2_is_b, o2_isnot_n, o2_isnot_b, o2_eq_i, o2_eq_s, o2_eq_ns, o2_eq_b, o2_ne_b, o2_idx_t0, o2_idx_t1, o1_len_scr, o1_len_t, o1_len_l, o1_len_s, o1_not_b, o1_tuple_l, o1_list_t, o1_list_l, o1_rev_t, o1_neg_i, o1_int_b, isi_s, isi_i, isi_b, isi_n, isi_t, isi_l, isTy, isNone_n, isNone_b, isNone_i, isNone_s, isNone_t, isNone_l, isBool_b, Bool.not_true, Bool.not_false, eq_self, if_true, if_false, Bool.false_eq_true, reduceIte, beq_self_eq_true, h2', c2, e17, hr, t2, t3, ni]) ⟨_, _, rfl⟩
    refine ⟨_, ?_, some (.int k), some one, q3, q4, rfl⟩
    unfold b_law_2
    exact (seq_asg (d := one) (by simp only [evalSs, evalS, evalE, evalEs, evalIT, Res.bind_ok, Res.bind_bad, Res.bind_exc, Res.tame_ok, Fl.go_next, Fl.go_ret, Fl.fin_next, Fl.fin_ret, slot_some, List.getElem?_cons_zero, List.getElem?_cons_succ, List.set_cons_zero, List.set_cons_succ, put_nm, put_tu, puts_nil, puts_cons, chainK_t, chainK_f, truth_bool, truth_none, truth_int, truth_list, truth_tuple, truth_str, o2_add_i, o2_sub_i, o2_lt_i, o2_le_i, o2_gt_i, o2_ge_i, o2_is_n, o2_is_b, o2_isnot_n, o2_isnot_b, o2_eq_i, o2_eq_s, o2_eq_ns, o2_eq_b, o2_ne_b, o2_idx_t0, o2_idx_t1, o1_len_scr, o1_len_t, o1_len_l, o1_len_s, o1_not_b, o1_tuple_l, o1_list_t, o1_list_l, o1_rev_t, o1_neg_i, o1_int_b, isi_s, isi_i, isi_b, isi_n, isi_t, isi_l, isTy, isNone_n, isNone_b, isNone_i, isNone_s, isNone_t, isNone_l, isBool_b, Bool.not_true, Bool.not_false, eq_self, if_true, if_false, Bool.false_eq_true, reduceIte, beq_self_eq_true, c1, e7, h1])).trans ((seq_if_f (d := .bool false) (by simp only [evalSs, evalS, evalE, evalEs, evalIT, Res.bind_ok, Res.bind_bad, Res.bind_exc, Res.tame_ok, Fl.go_next, Fl.go_ret, Fl.fin_next, Fl.fin_ret, slot_some, List.getElem?_cons_zero, List.getElem?_cons_succ, List.set_cons_zero, List.set_cons_succ, put_nm, put_tu, puts_nil, puts_cons, chainK_t, chainK_f, truth_bool, truth_none, truth_int, truth_list, truth_tuple, truth_str, o2_add_i, o2_sub_i, o2_lt_i, o2_le_i, o2_gt_i, o2_ge_i, o2_is_n, o2_is_b, o2_isnot_n, o2_isnot_b, o2_eq_i, o2_eq_s, o2_eq_ns, o2_eq_b, o2_ne_b, o2_idx_t0, o2_idx_t1, o1_len_scr, o1_len_t, o1_len_l, o1_len_s, o1_not_b, o1_tuple_l, o1_list_t, o1_list_l, o1_rev_t, o1_neg_i, o1_int_b, isi_s, isi_i, isi_b, isi_n, isi_t, isi_l, isTy, isNone_n, isNone_b, isNone_i, isNone_s, isNone_t, isNone_l, isBool_b, Bool.not_true, Bool.not_false, eq_self, if_true, if_false, Bool.false_eq_true, reduceIte, beq_self_eq_true, t1]) rfl rfl).trans ((seq_for (it_rng1 (by simp only [evalSs, evalS, evalE, evalEs, evalIT, Res.bind_ok, Res.bind_bad, Res.bind_exc, Res.tame_ok, Fl.go_next, Fl.go_ret, Fl.fin_next, Fl.fin_ret, slot_some, List.getElem?_cons_zero, List.getElem?_cons_succ, List.set_cons_zero, List.set_cons_succ, put_nm, put_tu, puts_nil, puts_cons, chainK_t, chainK_f, truth_bool, truth_none, truth_int, truth_list, truth_tuple, truth_str, o2_add_i, o2_sub_i, o2_lt_i, o2_le_i, o2_gt_i, o2_ge_i, o2_is_n, o2_is_b, o2_isnot_n, o2_isnot_b, o2_eq_i, o2_eq_s, o2_eq_ns, o2_eq_b, o2_ne_b, o2_idx_t0, o2_idx_t1, o1_len_scr, o1_len_t, o1_len_l, o1_len_s, o1_not_b, o1_tuple_l, o1_list_t, o1_list_l, o1_rev_t, o1_neg_i, o1_int_b, isi_s, isi_i, isi_b, isi_n, isi_t, isi_l, isTy, isNone_n, isNone_b, isNone_i, isNone_s, isNone_t, isNone_l, isBool_b, Bool.not_true, Bool.not_false, eq_self, if_true, if_false, Bool.false_eq_true, reduceIte, beq_self_eq_true] <;> rfl) r30) l2).trans rfl))) ⟨_, _, _, _, rfl⟩
  exact fin_of ((seq_for (it_rng1 (by simp only [evalSs, evalS, evalE, evalEs, evalIT, Res.bind_ok, Res.bind_bad, Res.bind_exc, Res.tame_ok, Fl.go_next, Fl.go_ret, Fl.fin_next, Fl.fin_ret, slot_some, List.getElem?_cons_zero, List.getElem?_cons_succ, List.set_cons_zero, List.set_cons_succ, put_nm, put_tu, puts_nil, puts_cons, chainK_t, chainK_f, truth_bool, truth_none, truth_int, truth_list, truth_tuple, truth_str, o2_add_i, o2_sub_i, o2_lt_i, o2_le_i, o2_gt_i, o2_ge_i, o2_is_n, o2_is_b, o2_isnot_n, o2_isnot_b, o2_eq_i, o2_eq_s, o2_eq_ns, o2_eq_b, o2_ne_b, o2_idx_t0, o2_idx_t1, o1_len_scr, o1_len_t, o1_len_l, o1_len_s, o1_not_b, o1_tuple_l, o1_list_t, o1_list_l, o1_rev_t, o1_neg_i, o1_int_b, isi_s, isi_i, isi_b, isi_n, isi_t, isi_l, isTy, isNone_n, isNone_b, isNone_i, isNone_s, isNone_t, isNone_l, isBool_b, Bool.not_true, Bool.not_false, eq_self, if_true, if_false, Bool.false_eq_true, reduceIte, beq_self_eq_true] <;> rfl) r6) l1).trans (seq_ret (by simp only [evalSs, evalS, evalE, evalEs, evalIT, Res.bind_ok, Res.bind_bad, Res.bind_exc, Res.tame_ok, Fl.go_next, Fl.go_ret, Fl.fin_next, Fl.fin_ret, slot_some, List.getElem?_cons_zero, List.getElem?_cons_succ, List.set_cons_zero, List.set_cons_succ, put_nm, put_tu, puts_nil, puts_cons, chainK_t, chainK_f, truth_bool, truth_none, truth_int, truth_list, truth_tuple, truth_str, o2_add_i, o2_sub_i, o2_lt_i, o2_le_i, o2_gt_i, o2_ge_i, o2_is_n, o2_is_b, o2_isnot_n, o2_isnot_b, o2_eq_i, o2_eq_s, o2_eq_ns, o2_eq_b, o2_ne_b, o2_idx_t0, o2_idx_t1, o1_len_scr, o1_len_t, o1_len_l, o1_len_s, o1_not_b, o1_tuple_l, o1_list_t, o1_list_l, o1_rev_t, o1_neg_i, o1_int_b, isi_s, isi_i, isi_b, isi_n, isi_t, isi_l, isTy, isNone_n, isNone_b, isNone_i, isNone_s, isNone_t, isNone_l, isBool_b, Bool.not_true, Bool.not_false, eq_self, if_true, if_false, Bool.false_eq_true, reduceIte, beq_self_eq_true])))
end Tq
open PySem PySem.W PySem.Calls PyProof.Rows
theorem PySem.Challenge.cw_tablequest_k41_odd_questions_holds : PySem.Challenge.rw_tablequest_k41_odd_questions.Holds := by
  w_on; o_law
  refine HandSHeadRun.head_any (r := Tq.R) (q := PySem.W.view Tq.R.prog [35]) (H := Tq.hk) (ob := Tq.ob) (M := 2500) (loose := Tq.loose)
    (d := HandSHeadRun.topDef Tq.R.prog 35) (kwd := []) Tq.ob_eq (by kernel_rfl) (fun s => by kernel_rfl) Tq.run (by kernel_rfl) (by kernel_rfl) (by kernel_rfl) (by rfl)
    (by first | assumption | decide +kernel) (by decide +kernel) ⟨rfl, rfl, rfl, rfl, rfl, by decide +kernel⟩ ?hw ?hc
  case hw => w_witness2
  case hc =>
    exact Tq.walk_tq (l := PySem.Challenge.rw_tablequest_k41_odd_questions) rfl (by kernel_rfl) (Tq.L.getD 26 default) (List.mem_iff_getElem?.mpr ⟨26, by rfl⟩) (by kernel_rfl) (by decide +kernel) (fun p hp => List.all_eq_true.mp Tq.checked p hp) Tq.all_in Tq.law_true
