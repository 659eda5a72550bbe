import PyProof.Rows.All
import Wide.All
import OpenK.AllK
import Wide.FinOn
import HandS.ForMost
import HandS.Text
import HandS.List
import HandS.Exc
import HandS.ExcOwn
import HandS.CallSlots
import HandS.WordsExc
import HandS.Flow
import HandS.IsInst
import HandS.TupAny
import HandS.TupLe
import HandS.Walk
import PyProof.Rows.IntBool
import HandS.Style
import HandS.Strs
import KE.GoesMore
import HandS.Set
import HandS.SetFor
import PyProof.Rows.SortShellAny
import HandS.SortRule
import HandS.More
import KE.KDictPairs
import HandS.Zip
import KE.GoesEnum
import KE.KDictZip
import PyProof.CollectWalk
import PyProof.TupleOfGen
import HandS.Conv
import HandS.DictTup
import HandS.Defaults
import HandS.HeadHook2
import HandS.HeadEnd
import HandS.Head0
import HandS.Head1
import HandS.Head2
import HandS.HeadHook1
import HandS.HeadHook3
import KE.KStateDown
import PySem.Challenge.RW_tablequest_k32_tables_changed
set_option Elab.async false
set_option linter.all false
set_option maxRecDepth 100000
set_option maxHeartbeats 0
/-! Tq, part A: plain values, a small language IE / IS, its evaluator. -/
namespace Tq
open PySem L2

abbrev D := PyData

inductive Res (α : Type) where
  | ok (a : α)
  | exc (c : Str) (fs : List D)
  | bad
namespace Res
variable {α β : Type}
def bind (r : Res α) (f : α → Res β) : Res β := match r with
  | .ok a => f a
  | .exc c fs => .exc c fs
  | .bad => .bad
@[simp] theorem bind_ok (a : α) (f : α → Res β) : (Res.ok a).bind f = f a := rfl
@[simp] theorem bind_exc (c : Str) (fs : List D) (f : α → Res β) : (Res.exc c fs : Res α).bind f = .exc c fs := rfl
@[simp] theorem bind_bad (f : α → Res β) : (Res.bad : Res α).bind f = .bad := rfl
/-- an exception is not let by -/
def tame (r : Res α) : Res α := match r with
  | .ok a => .ok a
  | _ => .bad
@[simp] theorem tame_ok (a : α) : (Res.ok a).tame = .ok a := rfl
end Res
open Res

abbrev En := List (Option D)

/-! ### the language -/
inductive Op1 where
  | neg | not | len | tuple | list | any | all | sum | least | most | int | bool | str | upper | lenSet | sortSet | sorted | dict | rev | lrange
  deriving DecidableEq
inductive Op2 where
  | add | sub | mul | mod | fdiv | pow | eq | ne | lt | le | gt | ge | is | isnot | in_ | notin | idx | fm | to | min2 | max2 | index | join | count | dzip | tzip
  deriving DecidableEq
inductive Op3 where
  | sl | get | replace
  deriving DecidableEq
inductive GOp where
  | in_ | get | idx
  deriving DecidableEq
inductive Ty where
  | int | str | bool | tuple | list | intstr
  deriving DecidableEq
mutual
inductive Tg where
  | nm (i : Nat)
  | tu (ts : Tgs)
inductive Tgs where
  | nil
  | cons (t : Tg) (ts : Tgs)
end
mutual
inductive IE where
  | bad
  | var (i : Nat)
  | non
  | bl (b : Bool)
  | int (i : Int)
  | str (x : Str)
  | glob (x : Str) (d : D)
  | tup (es : IEs)
  | lst (es : IEs)
  | dsp (ks : List Str) (es : IEs)
  | o1 (op : Op1) (a : IE)
  | o2 (op : Op2) (a b : IE)
  | o3 (op : Op3) (a b c : IE)
  | isi (a : IE) (t : Ty)
  | and_ (a b : IE)
  | or_ (a b : IE)
  | ifE (c a b : IE)
  | chain (o p : Op2) (a b c : IE)
  | call (f : Nat) (es : IEs)
  | comp (t : Tg) (it : IT) (elt : IE)
  | compIf (t : Tg) (it : IT) (c elt : IE)
  | compK (i : Nat) (a elt : IE)
  | compKIf (i : Nat) (a c elt : IE)
  | gd (op : GOp) (x : Str) (kvs : List (D × D)) (a c : IE)
inductive IEs where
  | nil
  | cons (e : IE) (es : IEs)
inductive IT where
  | seq (e : IE)
  | rng1 (a : IE)
  | rng2 (a b : IE)
  | enum (e : IE)
  | zip (a b : IE)
  | rev (e : IE)
end

/-! ### what the operations come to -/
def fits (n : Nat) : Bool := decide (n ≤ sizeLine)
def truth : D → Res Bool
  | .none => .ok false
  | .bool b => .ok b
  | .int i => .ok (i != 0)
  | .str s => .ok (s.length != 0)
  | .list xs => .ok (!xs.isEmpty)
  | .tuple xs => .ok (!xs.isEmpty)
  | .dict _ => .bad
def boolsD : List D → Option (List Bool)
  | [] => some []
  | .bool b :: r => (boolsD r).map (b :: ·)
  | _ :: _ => none
def intsD : List D → Option (List Int)
  | [] => some []
  | .int i :: r => (intsD r).map (i :: ·)
  | _ :: _ => none
def strsD : List D → Option (List Str)
  | [] => some []
  | .str x :: r => (strsD r).map (x :: ·)
  | _ :: _ => none
def isTy : D → Ty → Bool
  | .int _, .int => true
  | .bool _, .int => true
  | .bool _, .bool => true
  | .str _, .str => true
  | .tuple _, .tuple => true
  | .list _, .list => true
  | .int _, .intstr => true
  | .bool _, .intstr => true
  | .str _, .intstr => true
  | _, _ => false
def isiD (t : Ty) : D → Res D
  | .dict _ => .bad
  | d => .ok (.bool (isTy d t))
def lenD : D → Res D
  | .str s => .ok (.int s.length)
  | .list xs => .ok (.int xs.length)
  | .tuple xs => .ok (.int xs.length)
  | .dict [(.none, .list xs)] => .ok (.int xs.length)
  | _ => .bad
def tupleD : D → Res D
  | .list xs => .ok (.tuple xs)
  | .tuple xs => .ok (.tuple xs)
  | _ => .bad
def listD : D → Res D
  | .list xs => .ok (.list xs)
  | .tuple xs => .ok (.list xs)
  | _ => .bad
def anyD : D → Res D
  | .list xs => match boolsD xs with | some bs => .ok (.bool (bs.any id)) | none => .bad
  | _ => .bad
def allD : D → Res D
  | .list xs => match boolsD xs with | some bs => .ok (.bool (bs.all id)) | none => .bad
  | _ => .bad
def negD : D → Res D
  | .int i => .ok (.int (-i))
  | _ => .bad
def intD : D → Res D
  | .bool b => .ok (.int (if b then 1 else 0))
  | .int i => .ok (.int i)
  | _ => .bad
def upperD : D → Res D
  | .str x => if decide (x.length ≤ 5592405) && fits (Txt.upper x).length && PyData.strOk (Txt.upper x) then .ok (.str (Txt.upper x)) else .bad
  | _ => .bad
/-- the unlike ones, as first met -/
def unlike (xs : List Str) : List Str := xs.foldl (fun acc x => if acc.any (· == x) then acc else acc ++ [x]) []
def lenSetL (ds : List D) : Res D := match strsD ds with | some xs => if decide (xs.length ≤ 1000) then .ok (.int (unlike xs).length) else .bad | none => .bad
def lenSetD : D → Res D
  | .list ds => lenSetL ds
  | .tuple ds => lenSetL ds
  | _ => .bad
/-- texts, rising -/
def leT (x y : Str) : Bool := !decide (y.cps.toList < x.cps.toList)
def insT (x : Str) : List Str → List Str
  | [] => [x]
  | y :: r => if leT x y then x :: y :: r else y :: insT x r
def risT : List Str → List Str
  | [] => []
  | x :: r => insT x (risT r)
def rangeI (lo : Int) : Nat → List D
  | 0 => []
  | n + 1 => .int lo :: rangeI (lo + 1) n
/-- list(range(n)) -/
def lrangeD : D → Res D
  | .int n => if decide (0 ≤ n ∧ n ≤ 100000) then .ok (.list (rangeI 0 n.toNat)) else .bad
  | _ => .bad
def sortSetL (ds : List D) : Res D := match strsD ds with | some xs => if decide (xs.length ≤ 1000 ∧ (unlike xs).length < 64) then .ok (.list ((risT (unlike xs)).map PyData.str)) else .bad | none => .bad
def sortSetD : D → Res D
  | .list ds => sortSetL ds
  | .tuple ds => sortSetL ds
  | _ => .bad
def revD : D → Res D
  | .list xs => .ok (.list xs.reverse)
  | .tuple xs => .ok (.tuple xs.reverse)
  | _ => .bad
/-! dicts with texts as keys -/
def lookD (k : Str) : List (D × D) → Option D
  | [] => none
  | (.str x, v) :: r => if x = k then some v else lookD k r
  | _ :: _ => none
def keyIs (k : Str) : D → Bool
  | .str x => decide (x = k)
  | _ => false
def putD (k : Str) (v : D) (kvs : List (D × D)) : List (D × D) :=
  if (lookD k kvs).isSome then kvs.map fun p => if keyIs k p.1 then (p.1, v) else p else kvs ++ [(.str k, v)]
def mergeD (acc : List (D × D)) (es : List (Str × D)) : List (D × D) := es.foldl (fun acc p => putD p.1 p.2 acc) acc
/-- pairs of a text and a thing -/
def kvOf : List D → Option (List (Str × D))
  | [] => some []
  | .tuple [.str k, d] :: r => (kvOf r).map ((k, d) :: ·)
  | _ => none
/-- pairs with a name, by their names, rising -/
def insB {β : Type} (e : Str × β) : List (Str × β) → List (Str × β)
  | [] => [e]
  | f :: r => if leT e.1 f.1 then e :: f :: r else f :: insB e r
def risB {β : Type} : List (Str × β) → List (Str × β)
  | [] => []
  | e :: r => insB e (risB r)
def isTup : D → Bool
  | .tuple _ => true
  | _ => false
def npD (e : Str × D) : D := .tuple [.str e.1, e.2]
def sortPairs (ds : List D) : Res D := match kvOf ds with
  | some es => if decide (es.length ≤ 1000 ∧ (es.map (·.1)).Nodup) && es.all (fun e => isTup e.2) then .ok (.list ((risB es).map npD)) else .bad
  | none => .bad
def sortTexts (xs : List Str) : Res D := if decide (xs.length < 64) then .ok (.list ((risT xs).map PyData.str)) else .bad
def sortedD : D → Res D
  | .list ds => match strsD ds with | some xs => sortTexts xs | none => sortPairs ds
  | .dict kvs => match strsD (kvs.map (·.1)) with | some xs => sortTexts xs | none => .bad
  | _ => .bad
def dictL (ds : List D) : Res D := match kvOf ds with
  | some es => .ok (.dict (mergeD [] es))
  | none => .bad
def dictD : D → Res D
  | .list ds => dictL ds
  | .tuple ds => dictL ds
  | _ => .bad
def notD (d : D) : Res D := (truth d).bind fun b => .ok (.bool (!b))
def op1 : Op1 → D → Res D
  | .neg => negD
  | .not => notD
  | .len => lenD
  | .tuple => tupleD
  | .list => listD
  | .any => anyD
  | .all => allD
  | .int => intD
  | .upper => upperD
  | .lenSet => lenSetD
  | .sortSet => sortSetD
  | .lrange => lrangeD
  | .sorted => sortedD
  | .rev => revD
  | .dict => dictD
  | _ => fun _ => .bad
/-! no dict within -/
mutual
def noDict : D → Bool
  | .none | .bool _ | .int _ | .str _ => true
  | .list xs | .tuple xs => noDicts xs
  | .dict _ => false
def noDicts : List D → Bool
  | [] => true
  | x :: xs => noDict x && noDicts xs
end
/-- == is asked of data that is shallow on one side -/
def eqOk (a b : D) : Bool := noDict a && noDict b && decide (min a.depth b.depth ≤ 60)
def inOk (a : D) (ds : List D) : Bool := noDict a && noDicts ds && decide (min (PyData.depthAll ds) a.depth ≤ 60)
def b2i (b : Bool) : Int := if b = true then 1 else 0
def addD : D → D → Res D
  | .bool a, .int j => .ok (.int (b2i a + j))
  | .int i, .int j => .ok (.int (i + j))
  | .str x, .str y => if fits (x.length + y.length) then .ok (.str (x ++ y)) else .bad
  | .list x, .list y => if fits (x.length + y.length) then .ok (.list (x ++ y)) else .bad
  | .tuple x, .tuple y => if fits (x.length + y.length) then .ok (.tuple (x ++ y)) else .bad
  | _, _ => .bad
def int2D (f : Int → Int → Res D) : D → D → Res D
  | .int i, .int j => f i j
  | _, _ => .bad
def subD : D → D → Res D
  | .bool a, .int j => .ok (.int (b2i a - j))
  | .int i, .bool b => .ok (.int (i - b2i b))
  | .int i, .int j => .ok (.int (i - j))
  | _, _ => .bad
def mulOk (i j : Int) : Bool := decide ((-(2 ^ 64) < i ∧ i < 2 ^ 64) ∨ (-(2 ^ 64) < j ∧ j < 2 ^ 64))
def repOk (n : Nat) (k : Int) : Bool := decide (0 ≤ k ∧ k ≤ 1000 ∧ n ≤ 1000)
def mulD : D → D → Res D
  | .bool a, .int j => .ok (.int (b2i a * j))
  | .int i, .int j => if mulOk i j then .ok (.int (i * j)) else .bad
  | .list xs, .int k => if repOk xs.length k then .ok (.list (List.replicate k.toNat xs).flatten) else .bad
  | .str x, .int k => if repOk x.length k then .ok (.str ⟨(List.replicate k.toNat x.cps).foldl (· ++ ·) #[]⟩) else .bad
  | _, _ => .bad
def modD : D → D → Res D := int2D fun i j => if decide (0 < j) then .ok (.int (i % j)) else .bad
def powD : D → D → Res D := int2D fun i j => if decide (0 ≤ j ∧ j ≤ 1000000 ∧ i.natAbs < 2 ^ 64) then .ok (.int (i ^ j.toNat)) else .bad
def eqD (a b : D) : Res D := if eqOk a b then .ok (.bool (PyData.eqv a b)) else .bad
def neD (a b : D) : Res D := if eqOk a b then .ok (.bool (!PyData.eqv a b)) else .bad
def ltD : D → D → Res D
  | .int i, .int j => .ok (.bool (decide (i < j)))
  | .str x, .str y => .ok (.bool (decide (x.cps.toList < y.cps.toList)))
  | _, _ => .bad
def leD : D → D → Res D
  | .int i, .int j => .ok (.bool (decide (i ≤ j)))
  | .str x, .str y => .ok (.bool (!decide (y.cps.toList < x.cps.toList)))
  | _, _ => .bad
def gtD : D → D → Res D
  | .int i, .int j => .ok (.bool (decide (j < i)))
  | .str x, .str y => .ok (.bool (decide (y.cps.toList < x.cps.toList)))
  | _, _ => .bad
def geD : D → D → Res D
  | .int i, .int j => .ok (.bool (decide (j ≤ i)))
  | .str x, .str y => .ok (.bool (!decide (x.cps.toList < y.cps.toList)))
  | _, _ => .bad
def keysD : List (D × D) → Option (List D)
  | [] => some []
  | (.str x, _) :: r => (keysD r).map (.str x :: ·)
  | _ :: _ => none
def isKeyed (kvs : List (D × D)) : Bool := (keysD kvs).isSome
def isNone : D → Bool
  | .none => true
  | _ => false
def isBool (b : Bool) : D → Bool
  | .bool c => c == b
  | _ => false
def isD (a : D) : D → Res D
  | .none => .ok (.bool (isNone a))
  | .bool b => .ok (.bool (isBool b a))
  | _ => .bad
def isnotD (a : D) : D → Res D
  | .none => .ok (.bool (!isNone a))
  | .bool b => .ok (.bool (!isBool b a))
  | _ => .bad
def inSeq (a : D) (ds : List D) : Res Bool := if inOk a ds then .ok (ds.any fun z => PyData.eqv z a) else .bad
def inStr (y : Str) : D → Res Bool
  | .str x => if decide (x.length = 1) then .ok (decide (x.cps.getD 0 0 ∈ y.cps.toList)) else .bad
  | _ => .bad
def inDict (kvs : List (D × D)) : D → Res Bool
  | .str k => if isKeyed kvs then .ok (lookD k kvs).isSome else .bad
  | _ => .bad
def inB (a : D) : D → Res Bool
  | .str y => inStr y a
  | .tuple ds => inSeq a ds
  | .list ds => inSeq a ds
  | .dict kvs => inDict kvs a
  | _ => .bad
def inD (a b : D) : Res D := (inB a b).bind fun t => .ok (.bool t)
def notinD (a b : D) : Res D := (inB a b).bind fun t => .ok (.bool (!t))
def atD (xs : List D) : D → Res D
  | .int i => match atI xs i with | some d => .ok d | none => .bad
  | _ => .bad
def atS (x : Str) : D → Res D
  | .int i => match atI x.cps.toList i with | some c => .ok (.str ⟨#[c]⟩) | none => .bad
  | _ => .bad
def getD' (kvs : List (D × D)) : D → Res D
  | .str k => match lookD k kvs with | some d => .ok d | none => .bad
  | _ => .bad
def idxD : D → D → Res D
  | .list xs => atD xs
  | .tuple xs => atD xs
  | .dict [(.none, .list xs)] => atD xs
  | .str x => atS x
  | .dict kvs => getD' kvs
  | _ => fun _ => .bad
def seqOf : D → Res (List D)
  | .list ds => .ok ds
  | .tuple ds => .ok ds
  | _ => .bad
def zipD : List D → List D → List D
  | a :: r, b :: q => .tuple [a, b] :: zipD r q
  | _, _ => []
def dzipD (a b : D) : Res D := (seqOf a).bind fun xs => (seqOf b).bind fun ys => match strsD xs with
  | some ks => .ok (.dict (mergeD [] (ks.zip ys)))
  | none => .bad
def tzipD : D → D → Res D
  | .list xs, .list ys => .ok (.tuple (zipD xs ys))
  | _, _ => .bad
/-- the first place of a text -/
def placeS (x : Str) : List Str → Option Nat
  | [] => none
  | y :: r => if y = x then some 0 else (placeS x r).map (· + 1)
def indexD : D → D → Res D
  | .list ds, .str x => match strsD ds with
    | some xs => (match placeS x xs with | some i => .ok (.int i) | none => .bad)
    | none => .bad
  | _, _ => .bad
def joinD : D → D → Res D
  | .str s, .list ds => match strsD ds with | some xs => if fits ((xs.map Str.length).sum + xs.length * s.length) then .ok (.str (Str.join s xs)) else .bad | none => .bad
  | _, _ => .bad
def op2 : Op2 → D → D → Res D
  | .add => addD
  | .sub => subD
  | .mul => mulD
  | .mod => modD
  | .pow => powD
  | .eq => eqD
  | .ne => neD
  | .lt => ltD
  | .le => leD
  | .gt => gtD
  | .ge => geD
  | .is => isD
  | .isnot => isnotD
  | .in_ => inD
  | .notin => notinD
  | .idx => idxD
  | .join => joinD
  | .dzip => dzipD
  | .tzip => tzipD
  | .index => indexD
  | _ => fun _ _ => .bad
/-! slices -/
def bound : D → Option (Option Int)
  | .none => some none
  | .int i => some (some i)
  | _ => none
def cutL {α : Type} (xs : List α) (lo hi : Option Int) : List α := (xs.drop (HT.sIx xs.length 0 lo)).take (HT.sIx xs.length xs.length hi - HT.sIx xs.length 0 lo)
def cutD (lo hi : Option Int) : D → Res D
  | .list xs => .ok (.list (cutL xs lo hi))
  | .tuple xs => .ok (.tuple (cutL xs lo hi))
  | .str x => .ok (.str (cutS x lo hi))
  | _ => .bad
def slD (a lo hi : D) : Res D := match bound lo, bound hi with
  | some l, some h => cutD l h a
  | _, _ => .bad
def dGetD (a k x : D) : Res D := match a, k with
  | .dict kvs, .str k => if isKeyed kvs then .ok ((lookD k kvs).getD x) else .bad
  | _, _ => .bad
def op3 : Op3 → D → D → D → Res D
  | .sl => slD
  | .get => dGetD
  | _ => fun _ _ _ => .bad
/-- a display -/
def dispD : List Str → List D → List (D × D) → Option (List (D × D))
  | [], [], acc => some acc
  | k :: ks, d :: ds, acc => dispD ks ds (putD k d acc)
  | _, _, _ => none
def dspD (ks : List Str) (ds : List D) : Res D := match dispD ks ds [] with
  | some kvs => .ok (.dict kvs)
  | none => .bad
def keysOf : D → Res (List D)
  | .dict kvs => match keysD kvs with | some ks => .ok ks | none => .bad
  | _ => .bad

/-- a dict of the module -/
def gdD (op : GOp) (kvs : List (D × D)) (z : D) : D → Res D
  | .str k => (match op with
    | .in_ => .ok (.bool (lookD k kvs).isSome)
    | .get => .ok ((lookD k kvs).getD z)
    | .idx => match lookD k kvs with | some d => .ok d | none => .bad)
  | _ => .bad

/-! ### running -/
mutual
def Tg.put : Tg → D → En → Res En
  | .nm i, d, env => .ok (env.set i (some d))
  | .tu ts, .tuple ds, env => Tgs.put ts ds env
  | .tu _, _, _ => .bad
def Tgs.put : Tgs → List D → En → Res En
  | .nil, [], env => .ok env
  | .cons t ts, d :: ds, env => (Tg.put t d env).bind fun e => Tgs.put ts ds e
  | _, _, _ => .bad
end
def eachD (f : D → Res (Option D)) : List D → Res (List D)
  | [] => .ok []
  | d :: ds => (f d).bind fun o => (eachD f ds).bind fun r => .ok (match o with | some x => x :: r | none => r)
def rangeD (lo : Int) : Nat → List D
  | 0 => []
  | n + 1 => .int lo :: rangeD (lo + 1) n
def enumD (i : Nat) : List D → List D
  | [] => []
  | d :: r => .tuple [.int i, d] :: enumD (i + 1) r
def itemsOf : D → Res (List D)
  | .list ds => .ok ds
  | .tuple ds => .ok ds
  | .str x => .ok (x.cps.toList.map fun c => .str ⟨#[c]⟩)
  | _ => .bad
def slot : Option (Option D) → Res D
  | some (some d) => .ok d
  | _ => .bad
@[simp] theorem slot_some (d : D) : slot (some (some d)) = .ok d := rfl
/-- a op b op c, behind the first answer -/
def chainK (r : Res D) : D → Res D
  | .bool true => r
  | .bool false => .ok (.bool false)
  | _ => .bad
@[simp] theorem chainK_t (r : Res D) : chainK r (.bool true) = r := rfl
@[simp] theorem chainK_f (r : Res D) : chainK r (.bool false) = .ok (.bool false) := rfl
def rng1D : D → Res (List D)
  | .int n => if decide (-(2 ^ 62) ≤ n ∧ n ≤ (sizeLine : Int)) then .ok (rangeD 0 n.toNat) else .bad
  | _ => .bad
def rng2D : D → D → Res (List D)
  | .int i, .int j => if decide (-(2 ^ 62) ≤ i ∧ i < 2 ^ 62 ∧ -(2 ^ 62) ≤ j ∧ j < 2 ^ 62 ∧ j - i ≤ (sizeLine : Int)) then .ok (rangeD i (j - i).toNat) else .bad
  | _, _ => .bad
section
variable (ρ : Nat → List D → Res D)
mutual
def evalE : IE → En → Res D
  | .bad, _ => .bad
  | .var i, env => slot env[i]?
  | .non, _ => .ok .none
  | .bl b, _ => .ok (.bool b)
  | .int i, _ => .ok (.int i)
  | .str x, _ => .ok (.str x)
  | .glob _ d, _ => .ok d
  | .tup es, env => (evalEs es env).bind fun ds => .ok (.tuple ds)
  | .lst es, env => (evalEs es env).bind fun ds => .ok (.list ds)
  | .dsp ks es, env => (evalEs es env).bind (dspD ks)
  | .o1 op a, env => (evalE a env).bind (op1 op)
  | .o2 op a b, env => (evalE a env).bind fun x => (evalE b env).bind fun y => op2 op x y
  | .o3 op a b c, env => (evalE a env).bind fun x => (evalE b env).bind fun y => (evalE c env).bind fun z => op3 op x y z
  | .isi a t, env => (evalE a env).bind (isiD t)
  | .and_ a b, env => (evalE a env).bind fun x => (truth x).bind fun t => if t then evalE b env else .ok x
  | .or_ a b, env => (evalE a env).bind fun x => (truth x).bind fun t => if t then .ok x else evalE b env
  | .ifE c a b, env => (evalE c env).bind fun x => (truth x).bind fun t => if t then evalE a env else evalE b env
  | .chain o p a b c, env => (evalE a env).bind fun x => (evalE b env).bind fun y => (op2 o x y).bind (chainK ((evalE c env).bind fun z => op2 p y z))
  | .call f es, env => (evalEs es env).bind (ρ f)
  | .comp t it elt, env => (evalIT it env).bind fun ds => ((eachD (fun d => (t.put d env).bind fun e => (evalE elt e).bind fun x => .ok (some x)) ds).tame).bind fun r => .ok (.list r)
  | .compIf t it c elt, env => (evalIT it env).bind fun ds => ((eachD (fun d => (t.put d env).bind fun e => (evalE c e).bind fun y => (truth y).bind fun b => if b then (evalE elt e).bind fun x => .ok (some x) else .ok none) ds).tame).bind fun r => .ok (.list r)
  | .compK i a elt, env => (evalE a env).bind fun u => (keysOf u).bind fun ds => ((eachD (fun d => (evalE elt (env.set i (some d))).bind fun x => .ok (some x)) ds).tame).bind fun r => .ok (.list r)
  | .compKIf i a c elt, env => (evalE a env).bind fun u => (keysOf u).bind fun ds => ((eachD (fun d => (evalE c (env.set i (some d))).bind fun y => (truth y).bind fun b => if b then (evalE elt (env.set i (some d))).bind fun x => .ok (some x) else .ok none) ds).tame).bind fun r => .ok (.list r)
  | .gd op _ kvs a c, env => (evalE a env).bind fun k => (evalE c env).bind fun z => gdD op kvs z k
def evalEs : IEs → En → Res (List D)
  | .nil, _ => .ok []
  | .cons e es, env => (evalE e env).bind fun d => (evalEs es env).bind fun ds => .ok (d :: ds)
def evalIT : IT → En → Res (List D)
  | .seq e, env => (evalE e env).bind itemsOf
  | .rng1 a, env => (evalE a env).bind rng1D
  | .rng2 a b, env => (evalE a env).bind fun d => (evalE b env).bind (rng2D d)
  | .enum e, env => (evalE e env).bind fun d => (seqOf d).bind fun ds => .ok (enumD 0 ds)
  | .zip a b, env => (evalE a env).bind fun d => (evalE b env).bind fun e => (seqOf d).bind fun xs => (seqOf e).bind fun ys => .ok (zipD xs ys)
  | .rev e, env => (evalE e env).bind fun d => (itemsOf d).bind fun ds => .ok ds.reverse
end
end

/-! ### statements -/
mutual
inductive IS where
  | pass
  | bad
  | asg (t : Tg) (e : IE)
  | par (i j : Nat) (a b : IE)
  | mset (i : Nat) (e : IE)
  | app (i : Nat) (e : IE)
  | ext (i : Nat) (e : IE)
  | ins (i : Nat) (a e : IE)
  | put (i : Nat) (a e : IE)
  | ret (e : IE)
  | if_ (c : IE) (a b : ISs)
  | for_ (t : Tg) (it : IT) (body : ISs)
  | while_ (n : Nat) (c : IE) (body : ISs)
  | appPop (i j : Nat) (e : IE)
  | exp (e : IE)
  | try_ (body : ISs)
inductive ISs where
  | nil
  | cons (s : IS) (ss : ISs)
  | pub (ms : List Nat) (ss : ISs)
  | once2 (i j l : Nat)
  | minus2 (r o th v : Nat)
end
inductive Fl where
  | next (env : En)
  | ret (d : D)
def Fl.go (f : En → Res Fl) : Fl → Res Fl
  | .next e => f e
  | .ret d => .ok (.ret d)
def Fl.fin : Fl → Res D
  | .next _ => .ok .none
  | .ret d => .ok d
/-- a list grown by one -/
def appD (env : En) (i : Nat) (d : D) : Option (Option D) → Res Fl
  | some (some (.list ds)) => if decide (ds.length < sizeLine) then .ok (.next (env.set i (some (.list (ds ++ [d]))))) else .bad
  | _ => .bad
def extD (env : En) (i : Nat) (e : D) : Option (Option D) → Res Fl
  | some (some (.list ds)) => (match e with | .list es => if decide (ds.length + es.length ≤ sizeLine) then .ok (.next (env.set i (some (.list (ds ++ es))))) else .bad | _ => .bad)
  | _ => .bad
def insD (env : En) (i : Nat) (n e : D) : Option (Option D) → Res Fl
  | some (some (.list ds)) => (match n with | .int n => if decide (ds.length < sizeLine ∧ 0 ≤ n ∧ n < 2 ^ 62) then .ok (.next (env.set i (some (.list (ds.take n.toNat ++ [e] ++ ds.drop n.toNat))))) else .bad | _ => .bad)
  | _ => .bad
def putS (env : En) (i : Nat) (n e : D) : Option (Option D) → Res Fl
  | some (some (.dict kvs)) => (match n with | .str k => if isKeyed kvs && decide (kvs.length < sizeLine) then .ok (.next (env.set i (some (.dict (putD k e kvs))))) else .bad | _ => .bad)
  | _ => .bad
/-- a list's item moved to the end of another -/
def popD (env : En) (i j : Nat) (n : D) : Option (Option D) → Option (Option D) → Res Fl
  | some (some (.list ds)), some (some (.list es)) => (match n with
    | .int n => if decide (0 ≤ n ∧ n.toNat < es.length ∧ es.length < 2 ^ 62 ∧ ds.length < sizeLine ∧ i ≠ j) then
        (match es[n.toNat]? with | some d => .ok (.next ((env.set j (some (.list (es.eraseIdx n.toNat)))).set i (some (.list (ds ++ [d]))))) | none => .bad) else .bad
    | _ => .bad)
  | _, _ => .bad
/-- a new thing that may be changed -/
def freshD : D → Bool
  | .list _ => true
  | .dict kvs => isKeyed kvs
  | _ => false
def msetD (env : En) (i : Nat) (d : D) : Res Fl := if freshD d then .ok (.next (env.set i (some d))) else .bad
/-! rows as keys -/
abbrev FK := Option L2.Key
instance : DecidableEq FK := inferInstanceAs (DecidableEq (Option (Int ⊕ Str)))
def fkD : D → Option FK
  | .none => some none
  | .int i => some (some (.inl i))
  | .bool b => some (some (.inl (if b then 1 else 0)))
  | .str x => some (some (.inr x))
  | _ => none
def fkDs : List D → Option (List FK)
  | [] => some []
  | d :: ds => match fkD d, fkDs ds with
    | some k, some ks => some (k :: ks)
    | _, _ => none
def keyD : D → Option (List FK)
  | .tuple ds => fkDs ds
  | _ => none
def hasK (seen : List (List FK)) (k : List FK) : Bool := seen.any fun x => decide (x = k)
theorem hasK_iff {seen : List (List FK)} {k : List FK} : hasK seen k = true ↔ k ∈ seen := by
  unfold hasK
  rw [List.any_eq_true]
  exact ⟨fun ⟨x, hx, e⟩ => (of_decide_eq_true e) ▸ hx, fun h => ⟨k, h, decide_eq_true rfl⟩⟩
/-- rows that did not stand ahead -/
def onceGo : List (List FK) → List D → Option (List D)
  | _, [] => some []
  | seen, d :: ds => match keyD d with
    | none => none
    | some k => if hasK seen k then onceGo seen ds else (onceGo (seen ++ [k]) ds).map (d :: ·)
def onceD (f : Option (Option D)) : Option (Option D) → Res D
  | some (some (.list ds)) => (match f with
    | some (some (.dict [])) => if decide (ds.length ≤ 1000) then (match onceGo [] ds with | some r => .ok (.list r) | none => .bad) else .bad
    | _ => .bad)
  | _ => .bad
def keysR : List D → Option (List (List FK))
  | [] => some []
  | d :: ds => match keyD d, keysR ds with
    | some k, some ks => some (k :: ks)
    | _, _ => none
/-- rows whose keys are none of these -/
def minusGo (ks : List (List FK)) (d : D) : Res (Option D) := match keyD d with
  | none => .bad
  | some k => .ok (if hasK ks k then none else some d)
def minusD : Option (Option D) → Option (Option D) → Res D
  | some (some (.list ds)), some (some (.list es)) => if decide (ds.length ≤ 1000 ∧ es.length ≤ 1000) then (match keysR es with
    | some ks => (eachD (minusGo ks) ds).bind fun r => .ok (.list r)
    | none => .bad) else .bad
  | _, _ => .bad
/-- slots forgotten -/
def dropE (env : En) : List Nat → En
  | [] => env
  | v :: vs => (dropE env vs).set v none
@[simp] theorem Fl.go_next (f : En → Res Fl) (e : En) : Fl.go f (.next e) = f e := rfl
@[simp] theorem Fl.go_ret (f : En → Res Fl) (d : D) : Fl.go f (.ret d) = .ok (.ret d) := rfl
@[simp] theorem Fl.fin_next (e : En) : Fl.fin (.next e) = .ok .none := rfl
@[simp] theorem Fl.fin_ret (d : D) : Fl.fin (.ret d) = .ok d := rfl
section
variable (ρ : Nat → List D → Res D)
def forD (f : D → En → Res Fl) : List D → En → Res Fl
  | [], env => .ok (.next env)
  | d :: ds, env => (f d env).bind (Fl.go (forD f ds))
def whileD (c : En → Res Bool) (f : En → Res Fl) : Nat → En → Res Fl
  | 0, _ => .bad
  | n + 1, env => (c env).bind fun b => if b then (f env).bind (Fl.go (whileD c f n)) else .ok (.next env)
mutual
def evalS : IS → En → Res Fl
  | .pass, env => .ok (.next env)
  | .bad, _ => .bad
  | .asg t e, env => (evalE ρ e env).bind fun d => (t.put d env).bind fun e => .ok (.next e)
  | .par i j a b, env => (evalE ρ a env).bind fun x => (evalE ρ b env).bind fun y => .ok (.next ((env.set i (some x)).set j (some y)))
  | .mset i e, env => (evalE ρ e env).bind (msetD env i)
  | .app i e, env => (evalE ρ e env).bind fun d => appD env i d env[i]?
  | .ext i e, env => (evalE ρ e env).bind fun d => extD env i d env[i]?
  | .ins i a e, env => (evalE ρ a env).bind fun n => (evalE ρ e env).bind fun d => insD env i n d env[i]?
  | .put i a e, env => (evalE ρ e env).bind fun d => (evalE ρ a env).bind fun n => putS env i n d env[i]?
  | .ret e, env => (evalE ρ e env).bind fun d => .ok (.ret d)
  | .if_ c a b, env => (evalE ρ c env).bind fun x => (truth x).bind fun t => if t then evalSs a env else evalSs b env
  | .for_ t it body, env => (evalIT ρ it env).bind fun ds => forD (fun d e => (t.put d e).bind fun e' => evalSs body e') ds env
  | .while_ n c body, env => whileD (fun e => (evalE ρ c e).bind truth) (fun e => evalSs body e) n env
  | .appPop i j e, env => (evalE ρ e env).bind fun n => popD env i j n env[i]? env[j]?
  | .try_ body, env => evalSs body env
  | .exp e, env => (evalE ρ e env).bind fun _ => .ok (.next env)
def evalSs : ISs → En → Res Fl
  | .nil, env => .ok (.next env)
  | .cons s ss, env => (evalS s env).bind (Fl.go (evalSs ss))
  | .pub ms ss, env => (evalSs ss env).bind (Fl.go fun e => .ok (.next (dropE e ms)))
  | .minus2 r o th v, env => if decide (th < env.length ∧ v < env.length) then (minusD env[r]? env[o]?).bind fun d => .ok (.ret d) else .bad
  | .once2 i j l, env => if decide (l < env.length) then (onceD env[j]? env[i]?).bind fun d => .ok (.ret d) else .bad
end
end
structure FDef where
  n : Nat
  arity : Nat
  body : ISs
def runF (ρ : Nat → List D → Res D) (fd : FDef) (ds : List D) : Res D :=
  if ds.length = fd.arity then (evalSs ρ fd.body (ds.map some ++ List.replicate (fd.n - ds.length) none)).bind Fl.fin
  else .bad
def callF (defs : Nat → Option FDef) : Nat → Nat → List D → Res D
  | 0, _, _ => .bad
  | k + 1, f, ds => match defs f with
    | some fd => runF (callF defs k) fd ds
    | none => .bad
end Tq

/-! Tq, part B: how plain values stand in the heap. -/
namespace Tq
open PySem L2 Res

/-! ### the heap without some places -/
def hide (H : Hp) (Ps : List Addr) : Hp := fun a => if a ∈ Ps then none else H a
theorem hide_out {H : Hp} {Ps : List Addr} {a : Addr} (h : a ∉ Ps) : hide H Ps a = H a := if_neg h
theorem hide_in {H : Hp} {Ps : List Addr} {a : Addr} (h : a ∈ Ps) : hide H Ps a = none := if_pos h
theorem hide_some {H : Hp} {Ps : List Addr} {a : Addr} {o : HO} (h : hide H Ps a = some o) : a ∉ Ps ∧ H a = some o := by
  by_cases ha : a ∈ Ps
  · rw [hide_in ha] at h; cases h
  · rw [hide_out ha] at h; exact ⟨ha, h⟩
theorem hide_le (H : Hp) (Ps : List Addr) : Same (hide H Ps) H := fun _ _ h => (hide_some h).2
theorem hide_mono {H H' : Hp} (h : Same H H') (Ps : List Addr) : Same (hide H Ps) (hide H' Ps) := fun a o q => by
  obtain ⟨h1, h2⟩ := hide_some q
  rw [hide_out h1]; exact h _ _ h2
theorem hide_nil (H : Hp) : hide H [] = H := by
  funext a; exact hide_out (by simp)
theorem same_upd {H : Hp} {p : Addr} {o : HO} (h : H p = none) : Same H (upd H p o) := fun b u q => by rw [upd_ne (ne_of_none q h)]; exact q
theorem seqT {K : PySem.W.Frag} {H H' : Hp} {a : Addr} {xs : List V} (e : Same H H') (h : SqT K H a xs) : SqT K H' a xs := by
  rcases h with (h | ⟨o, h⟩) | h
  · exact .inl (.inl (e _ _ h))
  · exact .inl (.inr ⟨o, e _ _ h⟩)
  · exact .inr h
/-- a tuple that has no dict of its own -/
def TupD (K : PySem.W.Frag) (H : Hp) (a : Addr) (xs : List V) : Prop :=
  (∃ o : Obj, H a = some (.frz o (.tup xs)) ∧ o.dict = none) ∨
    ∃ (o : Obj) (its : Array Value) (n : Nat), K.lookup a = some o ∧ o.cls = .type "tuple" ∧ o.dict = none ∧ o.data = .seq its n ∧ its.size ≤ sizeLine ∧ Vals xs its.toList
theorem TupD.sq {K : PySem.W.Frag} {H : Hp} {a : Addr} {xs : List V} (h : TupD K H a xs) : SqT K H a xs := by
  rcases h with ⟨o, h, _⟩ | ⟨o, its, n, h1, h2, _, h3, h4, h5⟩
  · exact .inl (.inr ⟨o, h⟩)
  · exact .inr ⟨o, its, n, h1, h2, h3, h4, h5⟩
theorem TupD.mono {K : PySem.W.Frag} {H H' : Hp} {a : Addr} {xs : List V} (e : Same H H') (h : TupD K H a xs) : TupD K H' a xs := by
  rcases h with ⟨o, h, z⟩ | h
  · exact .inl ⟨o, e _ _ h, z⟩
  · exact .inr h
/-- from one heap and its hidden places to another -/
structure Keep (Ps : List Addr) (H : Hp) (Ps' : List Addr) (H' : Hp) : Prop where
  view : Same (hide H Ps) (hide H' Ps')
  priv : ∀ p ∈ Ps, p ∈ Ps' ∧ H' p = H p
  dom : ∀ q ∈ Ps', H' q ≠ none
theorem Keep.same {Ps : List Addr} {H H' : Hp} (dom : ∀ q ∈ Ps, H q ≠ none) (h : Same H H') : Keep Ps H Ps H' where
  view := hide_mono h Ps
  priv := fun p hp => ⟨hp, by
    cases q : H p with
    | none => exact absurd q (dom p hp)
    | some o => exact h _ _ q⟩
  dom := fun q hq z => dom q hq (h.free z)
theorem Keep.trans {Ps Ps1 Ps2 : List Addr} {H H1 H2 : Hp} (a : Keep Ps H Ps1 H1) (b : Keep Ps1 H1 Ps2 H2) : Keep Ps H Ps2 H2 where
  view := a.view.trans b.view
  priv := fun p hp => ⟨(b.priv p (a.priv p hp).1).1, (b.priv p (a.priv p hp).1).2.trans (a.priv p hp).2⟩
  dom := b.dom
/-- a new hidden object -/
theorem Keep.new {Ps : List Addr} {H : Hp} {p : Addr} {o : HO} (dom : ∀ q ∈ Ps, H q ≠ none) (h : H p = none) : Keep Ps H (p :: Ps) (upd H p o) where
  view := fun a u q => by
    obtain ⟨h1, h2⟩ := hide_some q
    have ne : a ≠ p := ne_of_none h2 h
    rw [hide_out (by simp [ne, h1]), upd_ne ne]; exact h2
  priv := fun q hq => ⟨List.mem_cons_of_mem _ hq, upd_ne fun z => dom q hq (z ▸ h)⟩
  dom := fun q hq z => by
    by_cases e : q = p
    · subst e; rw [upd_same] at z; cases z
    · rw [upd_ne e] at z
      exact dom q ((List.mem_cons.mp hq).resolve_left e) z

/-! ### plain values in the heap -/
abbrev scrD (ds : List D) : D := .dict [(.none, .list ds)]
mutual
inductive Rp (K : PySem.W.Frag) (H : Hp) : V → D → Prop
  | non : Rp K H .non .none
  | bl (b : Bool) : Rp K H (.bl b) (.bool b)
  | int (i : Int) : Rp K H (.int i) (.int i)
  | str {x : Str} : x.length ≤ sizeLine → PyData.strOk x = true → Rp K H (.str x) (.str x)
  | lst {a : Addr} {xs : List V} {ds : List D} : H a = some (.lst xs) → RpAll K H xs ds → ds.length ≤ sizeLine → Rp K H (.ref a) (.list ds)
  | tup {a : Addr} {xs : List V} {ds : List D} : TupD K H a xs → RpAll K H xs ds → ds.length ≤ sizeLine → Rp K H (.ref a) (.tuple ds)
  | scr {a : Addr} {xs : List V} {ds : List D} : SqL K H a xs → RpAll K H xs ds → ds.length ≤ sizeLine → Rp K H (.ref a) (scrD ds)
  | dct {a : Addr} {ks : List (Key × V)} {kvs : List (D × D)} : Rd H a (.dK ks) → RpKV K H ks kvs → kvs.length ≤ sizeLine → Rp K H (.ref a) (.dict kvs)
inductive RpAll (K : PySem.W.Frag) (H : Hp) : List V → List D → Prop
  | nil : RpAll K H [] []
  | cons {v : V} {vs : List V} {d : D} {ds : List D} : Rp K H v d → RpAll K H vs ds → RpAll K H (v :: vs) (d :: ds)
inductive RpKV (K : PySem.W.Frag) (H : Hp) : List (Key × V) → List (D × D) → Prop
  | nil : RpKV K H [] []
  | cons {x : Str} {v : V} {vs : List (Key × V)} {d : D} {ds : List (D × D)} : x.length ≤ sizeLine → PyData.strOk x = true → Rp K H v d → RpKV K H vs ds → RpKV K H ((.inr x, v) :: vs) ((.str x, d) :: ds)
end
section
variable {K : PySem.W.Frag} {H H' : Hp}
mutual
theorem Rp.mono (e : Same H H') : ∀ {v : V} {d : D}, Rp K H v d → Rp K H' v d
  | _, _, .non => .non
  | _, _, .bl b => .bl b
  | _, _, .int i => .int i
  | _, _, .str h h' => .str h h'
  | _, _, .lst h r z => .lst (e _ _ h) (RpAll.mono e r) z
  | _, _, .tup h r z => .tup (h.mono e) (RpAll.mono e r) z
  | _, _, .scr h r z => .scr (e.seq h) (RpAll.mono e r) z
  | _, _, .dct h r z => .dct (h.elim (fun q => .inl (e _ _ q)) fun ⟨o, q⟩ => .inr ⟨o, e _ _ q⟩) (RpKV.mono e r) z
theorem RpAll.mono (e : Same H H') : ∀ {vs : List V} {ds : List D}, RpAll K H vs ds → RpAll K H' vs ds
  | _, _, .nil => .nil
  | _, _, .cons h r => .cons (Rp.mono e h) (RpAll.mono e r)
theorem RpKV.mono (e : Same H H') : ∀ {vs : List (Key × V)} {ds : List (D × D)}, RpKV K H vs ds → RpKV K H' vs ds
  | _, _, .nil => .nil
  | _, _, .cons z1 z2 h r => .cons z1 z2 (Rp.mono e h) (RpKV.mono e r)
end
theorem RpKV.length : ∀ {vs : List (Key × V)} {ds : List (D × D)}, RpKV K H vs ds → vs.length = ds.length
  | _, _, .nil => rfl
  | _, _, .cons _ _ _ r => by rw [List.length_cons, List.length_cons, RpKV.length r]
theorem RpKV.keyed : ∀ {vs : List (Key × V)} {ds : List (D × D)}, RpKV K H vs ds → isKeyed ds = true
  | _, _, .nil => rfl
  | _, _, .cons (x := x) (d := d) (ds := ds) _ _ _ r => by
    have := RpKV.keyed r
    unfold isKeyed at this ⊢
    show ((keysD ds).map (PyData.str x :: ·)).isSome = true
    rw [Option.isSome_map]; exact this
theorem RpKV.look (k : Str) : ∀ {vs : List (Key × V)} {ds : List (D × D)}, RpKV K H vs ds → (∀ d, lookD k ds = some d → ∃ v, valV vs (.inr k) = some v ∧ Rp K H v d) ∧ (lookD k ds = none → valV vs (.inr k) = none)
  | _, _, .nil => ⟨fun d h => (nomatch (show (none : Option D) = some d from h)), fun _ => rfl⟩
  | _, _, .cons (x := x) (v := v) (d := d) (ds := ds) (vs := vs) _ _ h r => by
    have ih := RpKV.look k r
    show (∀ d', (if x = k then some d else lookD k ds) = some d' → _) ∧ ((if x = k then some d else lookD k ds) = none → _)
    by_cases e : x = k
    · subst e
      simp only [if_true]
      refine ⟨fun d' q => ⟨v, valV_pos rfl, ?_⟩, fun q => nomatch q⟩
      cases q; exact h
    · simp only [if_neg e]
      have ne : ¬ ((.inr x : Key), v).1 = .inr k := fun z => e (Sum.inr.inj z)
      rw [valV_neg ne]
      exact ih
theorem RpKV.there (k : Str) {vs : List (Key × V)} {ds : List (D × D)} (r : RpKV K H vs ds) : (lookD k ds).isSome = (valV vs (.inr k)).isSome := by
  obtain ⟨h1, h2⟩ := r.look k
  cases q : lookD k ds with
  | none => rw [h2 q]; rfl
  | some d => obtain ⟨v, e, _⟩ := h1 d q; rw [e]; rfl
theorem RpKV.append : ∀ {vs ws : List (Key × V)} {ds es : List (D × D)}, RpKV K H vs ds → RpKV K H ws es → RpKV K H (vs ++ ws) (ds ++ es)
  | _, _, _, _, .nil, s => s
  | _, _, _, _, .cons z1 z2 h r, s => .cons z1 z2 h (RpKV.append r s)
theorem RpKV.over {k : Str} {v : V} {d : D} (hv : Rp K H v d) : ∀ {vs : List (Key × V)} {ds : List (D × D)}, RpKV K H vs ds → RpKV K H (vs.map fun kv => if kv.1 = .inr k then (kv.1, v) else kv) (ds.map fun p => if keyIs k p.1 then (p.1, d) else p)
  | _, _, .nil => .nil
  | _, _, .cons (x := x) z1 z2 h r => by
    rw [List.map_cons, List.map_cons]
    by_cases e : x = k
    · subst e
      have e1 : keyIs x (PyData.str x) = true := decide_eq_true rfl
      simp only [e1, if_true]
      exact .cons z1 z2 hv (RpKV.over hv r)
    · have e1 : keyIs k (PyData.str x) = false := decide_eq_false e
      have e2 : ¬ (Sum.inr x : Key) = .inr k := fun z => e (Sum.inr.inj z)
      simp only [e1, e2, if_false, Bool.false_eq_true]
      exact .cons z1 z2 h (RpKV.over hv r)
theorem RpKV.put {k : Str} {v : V} {d : D} (hk : k.length ≤ sizeLine) (hk' : PyData.strOk k = true) (hv : Rp K H v d) {vs : List (Key × V)} {ds : List (D × D)} (r : RpKV K H vs ds) : RpKV K H (putK vs (.inr k) v) (putD k d ds) := by
  unfold putK putD
  rw [valV_any, ← r.there k]
  by_cases q : (lookD k ds).isSome = true
  · rw [if_pos q, if_pos q]
    exact r.over hv
  · rw [if_neg q, if_neg q]
    exact r.append (.cons hk hk' hv .nil)
theorem RpAll.length : ∀ {vs : List V} {ds : List D}, RpAll K H vs ds → vs.length = ds.length
  | _, _, .nil => rfl
  | _, _, .cons _ r => by rw [List.length_cons, List.length_cons, RpAll.length r]
theorem RpAll.get : ∀ {vs : List V} {ds : List D} {i : Nat} {v : V}, RpAll K H vs ds → vs[i]? = some v → ∃ d, ds[i]? = some d ∧ Rp K H v d
  | _, _, _, _, .nil, e => by simp at e
  | _, _, 0, _, .cons r _, e => by simp at e; subst e; exact ⟨_, rfl, r⟩
  | _, _, i + 1, v, .cons _ t, e => by
    obtain ⟨d, h1, h2⟩ := RpAll.get (i := i) (v := v) t (by simpa using e)
    exact ⟨d, by simpa using h1, h2⟩
theorem RpAll.getD : ∀ {vs : List V} {ds : List D} {i : Nat} {d : D}, RpAll K H vs ds → ds[i]? = some d → ∃ v, vs[i]? = some v ∧ Rp K H v d
  | _, _, _, _, .nil, e => by simp at e
  | _, _, 0, _, .cons r _, e => by simp at e; subst e; exact ⟨_, rfl, r⟩
  | _, _, i + 1, d, .cons _ t, e => by
    obtain ⟨v, h1, h2⟩ := RpAll.getD (i := i) (d := d) t (by simpa using e)
    exact ⟨v, by simpa using h1, h2⟩
theorem RpAll.append : ∀ {xs ys : List V} {ds es : List D}, RpAll K H xs ds → RpAll K H ys es → RpAll K H (xs ++ ys) (ds ++ es)
  | _, _, _, _, .nil, s => s
  | _, _, _, _, .cons r t, s => .cons r (RpAll.append t s)
theorem RpAll.take : ∀ {xs : List V} {ds : List D} (n : Nat), RpAll K H xs ds → RpAll K H (xs.take n) (ds.take n)
  | _, _, 0, _ => .nil
  | _, _, _ + 1, .nil => .nil
  | _, _, n + 1, .cons r t => .cons r (RpAll.take n t)
theorem RpAll.drop : ∀ {xs : List V} {ds : List D} (n : Nat), RpAll K H xs ds → RpAll K H (xs.drop n) (ds.drop n)
  | _, _, 0, r => r
  | _, _, _ + 1, .nil => .nil
  | _, _, n + 1, .cons _ t => RpAll.drop n t
theorem RpAll.atI {vs : List V} {ds : List D} {i : Int} {d : D} (r : RpAll K H vs ds) (h : L2.atI ds i = some d) : ∃ v, L2.atI vs i = some v ∧ Rp K H v d := by
  unfold L2.atI at h ⊢
  rw [r.length]
  cases e : ixN ds.length i with
  | none => rw [e] at h; cases h
  | some j =>
    rw [e] at h
    exact r.getD h
mutual
theorem Rp.dp : ∀ {v : V} {d : D}, Rp K H v d → noDict d = true → Dp K H v d ∧ d.canLay0 = true
  | _, _, .non, _ => ⟨.non, by simp [PyData.canLay0]⟩
  | _, _, .bl b, _ => ⟨.bl b, by simp [PyData.canLay0]⟩
  | _, _, .int i, _ => ⟨.int i, by simp [PyData.canLay0]⟩
  | _, _, .str h h', _ => ⟨.str _, by simpa [PyData.canLay0] using h'⟩
  | _, _, .lst h r z, n => by
    obtain ⟨a, b⟩ := RpAll.dp r (by simpa [noDict] using n)
    exact ⟨.lst (SqL.of h) a, by simpa [PyData.canLay0] using b⟩
  | _, _, .tup h r z, n => by
    obtain ⟨a, b⟩ := RpAll.dp r (by simpa [noDict] using n)
    exact ⟨.tup h.sq a, by simpa [PyData.canLay0] using b⟩
  | _, _, .scr h r z, n => by simp [noDict] at n
  | _, _, .dct h r z, n => by simp [noDict] at n
theorem RpAll.dp : ∀ {vs : List V} {ds : List D}, RpAll K H vs ds → noDicts ds = true → DpAll K H vs ds ∧ PyData.canLayAll0 ds = true
  | _, _, .nil, _ => ⟨.nil, by simp [PyData.canLayAll0]⟩
  | _, _, .cons h r, n => by
    simp only [noDicts, Bool.and_eq_true] at n
    obtain ⟨a, b⟩ := Rp.dp h n.1
    obtain ⟨c, d⟩ := RpAll.dp r n.2
    exact ⟨.cons a c, by simp [PyData.canLayAll0, b, d]⟩
end
end
end Tq

/-! Tq, part C: the operations, one by one. -/
namespace Tq
open PySem L2 Res

/-! ### values that may be hidden at their top -/
def Pv (K : PySem.W.Frag) (H : Hp) (Ps : List Addr) (v : V) : D → Prop
  | .list ds => ∃ p xs, v = .ref p ∧ p ∈ Ps ∧ H p = some (.lst xs) ∧ RpAll K (hide H Ps) xs ds ∧ ds.length ≤ sizeLine
  | .dict kvs => ∃ p ks, v = .ref p ∧ p ∈ Ps ∧ H p = some (.dK ks) ∧ RpKV K (hide H Ps) ks kvs ∧ kvs.length ≤ sizeLine
  | _ => False
def RL (K : PySem.W.Frag) (H : Hp) (Ps : List Addr) (b : Bool) (v : V) (d : D) : Prop := Rp K (hide H Ps) v d ∨ (b = true ∧ Pv K H Ps v d)
section
variable {K : PySem.W.Frag} {H H' : Hp} {Ps Ps' : List Addr} {b : Bool} {v : V} {d : D}
theorem RL.of (h : Rp K (hide H Ps) v d) : RL K H Ps b v d := .inl h
theorem RL.clean (h : RL K H Ps false v d) : Rp K (hide H Ps) v d := h.elim id fun q => Bool.noConfusion q.1
theorem Pv.keep (h : Pv K H Ps v d) (k : Keep Ps H Ps' H') : Pv K H' Ps' v d := by
  cases d with
  | list ds =>
    obtain ⟨p, xs, rfl, hp, e, r, z⟩ := h
    exact ⟨p, xs, rfl, (k.priv p hp).1, (k.priv p hp).2.trans e, r.mono k.view, z⟩
  | dict ds =>
    obtain ⟨p, xs, rfl, hp, e, r, z⟩ := h
    exact ⟨p, xs, rfl, (k.priv p hp).1, (k.priv p hp).2.trans e, r.mono k.view, z⟩
  | _ => exact False.elim h
theorem RL.keep (h : RL K H Ps b v d) (k : Keep Ps H Ps' H') : RL K H' Ps' b v d := h.elim (fun q => .inl (q.mono k.view)) fun q => .inr ⟨q.1, q.2.keep k⟩
theorem RL.list {ds : List D} (h : RL K H Ps b v (.list ds)) : ∃ a xs, v = .ref a ∧ H a = some (.lst xs) ∧ RpAll K (hide H Ps) xs ds ∧ ds.length ≤ sizeLine := by
  rcases h with h | ⟨_, p, xs, rfl, hp, e, r, z⟩
  · cases h with
    | lst e r z => exact ⟨_, _, rfl, hide_le _ _ _ _ e, r, z⟩
  · exact ⟨p, xs, rfl, e, r, z⟩
theorem RL.tuple {ds : List D} (h : RL K H Ps b v (.tuple ds)) : ∃ a xs, v = .ref a ∧ SqT K H a xs ∧ RpAll K (hide H Ps) xs ds ∧ ds.length ≤ sizeLine := by
  rcases h with h | ⟨_, h⟩
  · cases h with
    | tup e r z => exact ⟨_, _, rfl, seqT (hide_le _ _) e.sq, r, z⟩
  · exact False.elim h
theorem RL.tupleD {ds : List D} (h : RL K H Ps b v (.tuple ds)) : ∃ a xs, v = .ref a ∧ TupD K H a xs ∧ RpAll K (hide H Ps) xs ds ∧ ds.length ≤ sizeLine := by
  rcases h with h | ⟨_, h⟩
  · cases h with
    | tup e r z => exact ⟨_, _, rfl, e.mono (hide_le _ _), r, z⟩
  · exact False.elim h
theorem RL.scr {ds : List D} (h : RL K H Ps b v (scrD ds)) : ∃ a xs, v = .ref a ∧ SqL K H a xs ∧ RpAll K (hide H Ps) xs ds ∧ ds.length ≤ sizeLine := by
  rcases h with h | ⟨_, h⟩
  · cases h with
    | scr e r z => exact ⟨_, _, rfl, (hide_le _ _).seq e, r, z⟩
    | dct e r z => cases r
  · obtain ⟨p, ks, _, _, _, r, _⟩ := h
    cases r
theorem RL.dct {kvs : List (D × D)} (h : RL K H Ps b v (.dict kvs)) (hk : isKeyed kvs = true) : ∃ a ks, v = .ref a ∧ Rd H a (.dK ks) ∧ RpKV K (hide H Ps) ks kvs ∧ kvs.length ≤ sizeLine := by
  rcases h with h | ⟨_, p, ks, rfl, hp, e, r, z⟩
  · cases h with
    | scr e r z => cases hk
    | dct e r z => exact ⟨_, _, rfl, e.elim (fun q => .inl (hide_le _ _ _ _ q)) fun ⟨o, q⟩ => .inr ⟨o, hide_le _ _ _ _ q⟩, r, z⟩
  · exact ⟨p, ks, rfl, .inl e, r, z⟩
theorem RL.int {i : Int} (h : RL K H Ps b v (.int i)) : v = .int i := by
  rcases h with h | ⟨_, h⟩
  · cases h; rfl
  · exact False.elim h
theorem RL.bl {c : Bool} (h : RL K H Ps b v (.bool c)) : v = .bl c := by
  rcases h with h | ⟨_, h⟩
  · cases h; rfl
  · exact False.elim h
theorem RL.non (h : RL K H Ps b v .none) : v = .non := by
  rcases h with h | ⟨_, h⟩
  · cases h; rfl
  · exact False.elim h
theorem RL.str {x : Str} (h : RL K H Ps b v (.str x)) : v = .str x ∧ x.length ≤ sizeLine ∧ PyData.strOk x = true := by
  rcases h with h | ⟨_, h⟩
  · cases h with
    | str h1 h2 => exact ⟨rfl, h1, h2⟩
  · exact False.elim h
theorem RL.dp (h : RL K H Ps b v d) (n : noDict d = true) : Dp K H v d ∧ d.canLay0 = true := by
  rcases h with h | ⟨_, h⟩
  · exact (h.mono (hide_le _ _)).dp n
  · cases d with
    | list ds =>
      obtain ⟨p, xs, rfl, hp, e, r, z⟩ := h
      exact Rp.dp (.lst e (r.mono (hide_le _ _)) z) n
    | dict ds => simp [noDict] at n
    | _ => exact False.elim h
/-- new objects -/
theorem not_hid {p : Addr} (dom : ∀ q ∈ Ps, H q ≠ none) (hp : H p = none) : p ∉ Ps := fun z => dom p z hp
theorem new_tup {p : Addr} {o : Obj} {xs : List V} {ds : List D} (ho : o.dict = none) (dom : ∀ q ∈ Ps, H q ≠ none) (hp : H p = none) (r : RpAll K (hide H Ps) xs ds) (z : ds.length ≤ sizeLine) : Rp K (hide (upd H p (.frz o (.tup xs))) Ps) (.ref p) (.tuple ds) :=
  .tup (.inl ⟨o, by rw [hide_out (not_hid dom hp), upd_same], ho⟩) (r.mono (hide_mono (same_upd hp) Ps)) z
theorem new_lst {p : Addr} {xs : List V} {ds : List D} (dom : ∀ q ∈ Ps, H q ≠ none) (hp : H p = none) (r : RpAll K (hide H Ps) xs ds) (z : ds.length ≤ sizeLine) : Rp K (hide (upd H p (.lst xs)) Ps) (.ref p) (.list ds) :=
  .lst (by rw [hide_out (not_hid dom hp), upd_same]) (r.mono (hide_mono (same_upd hp) Ps)) z
end

/-! ### a dict that is locked, and opened again -/
def Sw (H H' : Hp) : Prop := ∀ a o, H a = some o → H' a = some o ∨ ∃ ks, (o = .dK ks ∨ ∃ od, o = .frz od (.dK ks)) ∧ Rd H' a (.dK ks)
section
variable {K : PySem.W.Frag} {H H' : Hp}
theorem Sw.hide (h : Sw H H') (Ps : List Addr) : Sw (Tq.hide H Ps) (Tq.hide H' Ps) := fun a o q => by
  obtain ⟨h1, h2⟩ := hide_some q
  rcases h a o h2 with z | ⟨ks, z1, z2⟩
  · exact .inl (by rw [hide_out h1]; exact z)
  · refine .inr ⟨ks, z1, ?_⟩
    unfold Rd
    rw [hide_out h1]
    exact z2
theorem Sw.lock {d : Addr} {ks : List (Key × V)} {od : Obj} (h : H d = some (.dK ks)) : Sw H (upd H d (.frz od (.dK ks))) := fun a o q => by
  by_cases e : a = d
  · subst e
    rw [h] at q; cases q
    exact .inr ⟨ks, .inl rfl, .inr ⟨od, upd_same⟩⟩
  · exact .inl (by rw [upd_ne e]; exact q)
theorem Sw.unlock {d : Addr} {ks : List (Key × V)} {od : Obj} (h : H d = some (.frz od (.dK ks))) : Sw H (upd H d (.dK ks)) := fun a o q => by
  by_cases e : a = d
  · subst e
    rw [h] at q; cases q
    exact .inr ⟨ks, .inr ⟨od, rfl⟩, .inl upd_same⟩
  · exact .inl (by rw [upd_ne e]; exact q)
theorem Sw.tup {a : Addr} {xs : List V} (e : Sw H H') (h : SqT K H a xs) : SqT K H' a xs := by
  rcases h with (h | ⟨o, h⟩) | h
  · rcases e _ _ h with z | ⟨ks, z | ⟨od, z⟩, _⟩ <;> first | exact .inl (.inl z) | cases z
  · rcases e _ _ h with z | ⟨ks, z | ⟨od, z⟩, _⟩ <;> first | exact .inl (.inr ⟨o, z⟩) | cases z
  · exact .inr h
theorem Sw.tupD {a : Addr} {xs : List V} (e : Sw H H') (h : TupD K H a xs) : TupD K H' a xs := by
  rcases h with ⟨o, h, q⟩ | h
  · rcases e _ _ h with z | ⟨ks, z | ⟨od, z⟩, _⟩ <;> first | exact .inl ⟨o, z, q⟩ | cases z
  · exact .inr h
theorem Sw.seq {a : Addr} {xs : List V} (e : Sw H H') (h : SqL K H a xs) : SqL K H' a xs := by
  rcases h with (h | ⟨o, h⟩) | h
  · rcases e _ _ h with z | ⟨ks, z | ⟨od, z⟩, _⟩ <;> first | exact .inl (.inl z) | cases z
  · rcases e _ _ h with z | ⟨ks, z | ⟨od, z⟩, _⟩ <;> first | exact .inl (.inr ⟨o, z⟩) | cases z
  · exact .inr h
theorem Sw.dct {a : Addr} {ks : List (Key × V)} (e : Sw H H') (h : Rd H a (.dK ks)) : Rd H' a (.dK ks) := by
  rcases h with h | ⟨o, h⟩
  · rcases e _ _ h with z | ⟨ks', z | ⟨od, z⟩, w⟩
    · exact .inl z
    · cases z; exact w
    · cases z
  · rcases e _ _ h with z | ⟨ks', z | ⟨od, z⟩, w⟩
    · exact .inr ⟨o, z⟩
    · cases z
    · cases z; exact w
mutual
theorem Rp.sw (e : Sw H H') : ∀ {v : V} {d : D}, Rp K H v d → Rp K H' v d
  | _, _, .non => .non
  | _, _, .bl b => .bl b
  | _, _, .int i => .int i
  | _, _, .str h h' => .str h h'
  | _, _, .lst h r z => .lst (by rcases e _ _ h with q | ⟨ks, q | ⟨od, q⟩, _⟩ <;> first | exact q | cases q) (RpAll.sw e r) z
  | _, _, .tup h r z => .tup (e.tupD h) (RpAll.sw e r) z
  | _, _, .scr h r z => .scr (e.seq h) (RpAll.sw e r) z
  | _, _, .dct h r z => .dct (e.dct h) (RpKV.sw e r) z
theorem RpAll.sw (e : Sw H H') : ∀ {vs : List V} {ds : List D}, RpAll K H vs ds → RpAll K H' vs ds
  | _, _, .nil => .nil
  | _, _, .cons h r => .cons (Rp.sw e h) (RpAll.sw e r)
theorem RpKV.sw (e : Sw H H') : ∀ {vs : List (Key × V)} {ds : List (D × D)}, RpKV K H vs ds → RpKV K H' vs ds
  | _, _, .nil => .nil
  | _, _, .cons z1 z2 h r => .cons z1 z2 (Rp.sw e h) (RpKV.sw e r)
end
end

/-! ### truth -/
theorem tru_of {K : PySem.W.Frag} {H : Hp} {Ps : List Addr} {b : Bool} {v : V} {d : D} {t : Bool} (h : RL K H Ps b v d) (e : truth d = .ok t) : TruV K v H t := by
  cases d with
  | none => cases h.non; cases e; exact rfl
  | bool c => cases h.bl; cases e; exact rfl
  | int i => cases h.int; cases e; exact rfl
  | str x =>
    obtain ⟨rfl, h1, _⟩ := h.str
    cases e
    refine ⟨h1, ?_⟩
    by_cases q : x.length = 0
    · rw [q]; rfl
    · have q2 : ((x.length : Int) != 0) = true := by simp [q]
      rw [q2]; simp [q]
  | list ds =>
    obtain ⟨a, xs, rfl, e1, r, _⟩ := h.list
    cases e
    refine .inl ⟨xs, SqL.of e1, ?_⟩
    cases r <;> rfl
  | tuple ds =>
    obtain ⟨a, xs, rfl, e1, r, _⟩ := h.tuple
    cases e
    refine .inr (.inl ⟨xs, e1, ?_⟩)
    cases r <;> rfl
  | dict _ => cases e

/-! ### what an operation's reading must give -/
/-- one place -/
def R1ok (K : PySem.W.Frag) (f : D → Res D) (r : V → Hp → VK → Prop) : Prop :=
  ∀ (v : V) (H : Hp) (Ps : List Addr) (d x : D) (b : Bool) (Q : VK), (∀ q ∈ Ps, H q ≠ none) → RL K H Ps b v d → f d = .ok x → (∀ u H', Same H H' → Rp K (hide H' Ps) u x → Q u H') → r v H Q
/-- two places -/
def R2ok (K : PySem.W.Frag) (f : D → D → Res D) (r : R2) : Prop :=
  ∀ (v w : V) (H : Hp) (Ps : List Addr) (d e x : D) (b c : Bool) (Q : VK), (∀ q ∈ Ps, H q ≠ none) → RL K H Ps b v d → RL K H Ps c w e → f d e = .ok x → (∀ u H', Same H H' → Rp K (hide H' Ps) u x → Q u H') → r v w H Q
end Tq

/-! Tq, part D: the operations' readings. -/
namespace Tq
open PySem L2 Res

section
variable {X : Cx}
theorem op_isB : OpR X (compareOp .Is) (fun x y H Q => ∃ c, y = .bl c ∧ Q (.bl (decide (x = .bl c))) H) := by
  intro pins s σ H x y v u Q I rx ry h
  obtain ⟨c, rfl, q⟩ := h
  cases ry
  cases x with
  | non => cases rx; exact wpAny_pure ⟨.bl _, H, I, rfl, q⟩
  | bl b =>
    cases rx
    refine wpAny_pure ⟨.bl _, H, I, ?_, q⟩
    cases b <;> cases c <;> rfl
  | int _ => obtain ⟨t, rfl⟩ := rx; exact wpAny_pure ⟨.bl _, H, I, rfl, q⟩
  | str _ => obtain ⟨t, rfl⟩ := rx; exact wpAny_pure ⟨.bl _, H, I, rfl, q⟩
  | byt _ => obtain ⟨t, rfl⟩ := rx; exact wpAny_pure ⟨.bl _, H, I, rfl, q⟩
  | flt _ => obtain ⟨t, rfl⟩ := rx; exact wpAny_pure ⟨.bl _, H, I, rfl, q⟩
  | ref _ => cases rx; exact wpAny_pure ⟨.bl _, H, I, rfl, q⟩
  | ty _ => cases rx; exact wpAny_pure ⟨.bl _, H, I, rfl, q⟩
theorem op_notB : OpR X (compareOp .IsNot) (fun x y H Q => ∃ c, y = .bl c ∧ Q (.bl (!decide (x = .bl c))) H) := by
  intro pins s σ H x y v u Q I rx ry h
  obtain ⟨c, rfl, q⟩ := h
  cases ry
  cases x with
  | non => cases rx; exact wpAny_pure ⟨.bl _, H, I, rfl, q⟩
  | bl b =>
    cases rx
    refine wpAny_pure ⟨.bl _, H, I, ?_, q⟩
    cases b <;> cases c <;> rfl
  | int _ => obtain ⟨t, rfl⟩ := rx; exact wpAny_pure ⟨.bl _, H, I, rfl, q⟩
  | str _ => obtain ⟨t, rfl⟩ := rx; exact wpAny_pure ⟨.bl _, H, I, rfl, q⟩
  | byt _ => obtain ⟨t, rfl⟩ := rx; exact wpAny_pure ⟨.bl _, H, I, rfl, q⟩
  | flt _ => obtain ⟨t, rfl⟩ := rx; exact wpAny_pure ⟨.bl _, H, I, rfl, q⟩
  | ref _ => cases rx; exact wpAny_pure ⟨.bl _, H, I, rfl, q⟩
  | ty _ => cases rx; exact wpAny_pure ⟨.bl _, H, I, rfl, q⟩
/-- == and != where one side is shallow -/
def rEqM (K : PySem.W.Frag) : R2 := fun x y H Q => ∃ d e, Dp K H x d ∧ Dp K H y e ∧ d.canLay0 = true ∧ e.canLay0 = true ∧ min d.depth e.depth ≤ 60 ∧ Q (.bl (PyData.eqv d e)) H
def rNeM (K : PySem.W.Frag) : R2 := fun x y H Q => ∃ d e, Dp K H x d ∧ Dp K H y e ∧ d.canLay0 = true ∧ e.canLay0 = true ∧ min d.depth e.depth ≤ 60 ∧ Q (.bl (!PyData.eqv d e)) H
theorem op_eqM (hu : X.A.units + 64 < cLine) : OpR X (compareOp .Eq) (rEqM X.K) := by
  intro pins s σ H x y v u Q I rx ry h
  obtain ⟨d, e, hd, he, sd, se, hm, q⟩ := h
  obtain ⟨as, r1⟩ := Dp.reads I d x v hd rx
  obtain ⟨bs, r2⟩ := Dp.reads I e y u he ry
  exact SeqAt.compareEq_reads r1 r2 sd se (by omega) ⟨.bl _, H, I, rfl, q⟩
theorem op_neM (hu : X.A.units + 64 < cLine) : OpR X (compareOp .NotEq) (rNeM X.K) := by
  intro pins s σ H x y v u Q I rx ry h
  obtain ⟨d, e, hd, he, sd, se, hm, q⟩ := h
  obtain ⟨as, r1⟩ := Dp.reads I d x v hd rx
  obtain ⟨bs, r2⟩ := Dp.reads I e y u he ry
  exact SeqAt.compareNe_reads r1 r2 sd se (by omega) ⟨.bl _, H, I, rfl, q⟩
/-- in, not in of lists and tuples -/
def rInM (K : PySem.W.Frag) (neg : Bool) : R2 := fun x y H Q => ∃ d ds, Dp K H x d ∧ (Dp K H y (.list ds) ∨ Dp K H y (.tuple ds)) ∧ d.canLay0 = true ∧ PyData.canLayAll0 ds = true ∧ min (PyData.depthAll ds) d.depth ≤ 60 ∧
  Q (.bl (if neg then !ds.any fun z => PyData.eqv z d else ds.any fun z => PyData.eqv z d)) H
theorem op_inM (hu : X.A.units + 64 < cLine) : OpR X (compareOp .In) (rInM X.K false) := by
  intro pins s σ H x y v u Q I rx ry h
  obtain ⟨d, ds, hd, he, sd, se, hm, q⟩ := h
  obtain ⟨as, r1⟩ := Dp.reads I d x v hd rx
  rcases he with he | he
  · obtain ⟨bs, r2⟩ := Dp.reads I (.list ds) y u he ry
    exact SeqAt.in_list_reads r2 r1 se sd (by omega) ⟨.bl _, H, I, rfl, q⟩
  · obtain ⟨bs, r2⟩ := Dp.reads I (.tuple ds) y u he ry
    exact SeqAt.in_tuple_reads r2 r1 se sd (by omega) ⟨.bl _, H, I, rfl, q⟩
theorem op_notInM (hu : X.A.units + 64 < cLine) : OpR X (compareOp .NotIn) (rInM X.K true) := by
  intro pins s σ H x y v u Q I rx ry h
  obtain ⟨d, ds, hd, he, sd, se, hm, q⟩ := h
  obtain ⟨as, r1⟩ := Dp.reads I d x v hd rx
  rcases he with he | he
  · obtain ⟨bs, r2⟩ := Dp.reads I (.list ds) y u he ry
    exact SeqAt.notIn_list_reads r2 r1 se sd (by omega) ⟨.bl _, H, I, rfl, q⟩
  · obtain ⟨bs, r2⟩ := Dp.reads I (.tuple ds) y u he ry
    exact SeqAt.notIn_tuple_reads r2 r1 se sd (by omega) ⟨.bl _, H, I, rfl, q⟩
end

/-! ### the plain operations over represented values -/
section
variable {K : PySem.W.Frag}
theorem Rp.sing {H : Hp} {x : Str} {c : Nat} (h : PyData.strOk x = true) (hc : c ∈ x.cps.toList) : Rp K H (.str ⟨#[c]⟩) (.str ⟨#[c]⟩) := by
  refine .str (by show 1 ≤ sizeLine; decide) ?_
  unfold PyData.strOk at h ⊢
  have := Array.all_eq_true_iff_forall_mem.mp h c (Array.mem_def.mpr hc)
  simpa using this
def rBI (f : Int → Int → Int) : R2 := fun x y H Q => ∃ a j, x = .bl a ∧ y = .int j ∧ Q (.int (f (b2i a) j)) H
def rIB (f : Int → Int → Int) : R2 := fun x y H Q => ∃ i b, x = .int i ∧ y = .bl b ∧ Q (.int (f i (b2i b))) H
theorem op_addBI {X : Cx} : OpR X (binaryOp .Add) (rBI fun i j => i + j) := by
  intro pins s σ H x y v u Q I rx ry h
  obtain ⟨a, j, rfl, rfl, q⟩ := h
  cases rx
  obtain ⟨t, rfl⟩ := ry
  exact PySem.IntBool.add_bool_int ⟨.int (b2i a + j), H, I.tok _, ⟨_, rfl⟩, q⟩
theorem op_subBI {X : Cx} : OpR X (binaryOp .Sub) (rBI fun i j => i - j) := by
  intro pins s σ H x y v u Q I rx ry h
  obtain ⟨a, j, rfl, rfl, q⟩ := h
  cases rx
  obtain ⟨t, rfl⟩ := ry
  exact PySem.IntBool.sub_bool_int ⟨.int (b2i a - j), H, I.tok _, ⟨_, rfl⟩, q⟩
theorem op_subIB {X : Cx} : OpR X (binaryOp .Sub) (rIB fun i j => i - j) := by
  intro pins s σ H x y v u Q I rx ry h
  obtain ⟨a, j, rfl, rfl, q⟩ := h
  cases ry
  obtain ⟨t, rfl⟩ := rx
  exact PySem.IntBool.sub_int_bool ⟨.int (a - b2i j), H, I.tok _, ⟨_, rfl⟩, q⟩
theorem op_mulBI {X : Cx} : OpR X (binaryOp .Mult) (rBI fun i j => i * j) := by
  intro pins s σ H x y v u Q I rx ry h
  obtain ⟨a, j, rfl, rfl, q⟩ := h
  cases rx
  obtain ⟨t, rfl⟩ := ry
  exact PySem.IntBool.mul_bool_int ⟨.int (b2i a * j), H, I.tok _, ⟨_, rfl⟩, q⟩
/-- t + u: a new tuple has no dict of its own -/
def rCatF (K : PySem.W.Frag) : R2 := fun x y H Q => ∃ a b xs ys, x = .ref a ∧ y = .ref b ∧ SqT K H a xs ∧ SqT K H b ys ∧ xs.length + ys.length ≤ sizeLine ∧
  (xs = [] → Q (.ref b) H) ∧ (xs ≠ [] → ys = [] → Q (.ref a) H) ∧ (xs ≠ [] → ys ≠ [] → ∀ p o, H p = none → o.dict = none → Q (.ref p) (upd H p (.frz o (.tup (xs ++ ys)))))
theorem op_catF {X : Cx} : OpR X (binaryOp .Add) (rCatF X.K) := by
  intro pins s σ H x y v u Q I rx ry h
  obtain ⟨a, b, xs, ys, rfl, rfl, ha, hb, hz, q0, q1, q2⟩ := h
  cases rx
  cases ry
  obtain ⟨its, r1, p1, _⟩ := I.tuple ha
  obtain ⟨its2, r2, p2, _⟩ := I.tuple hb
  by_cases hx : xs = []
  · subst hx
    cases r1
    exact cat_tup0 p1 p2 ⟨.ref b, H, I, rfl, q0 rfl⟩
  · refine HT.cat_tup p1 p2 (fun z => hx (r1.nil_iff.mp z)) (fun z => ⟨.ref a, H, I, rfl, q1 hx (r2.nil_iff.mp z)⟩) (fun z => ?_) (by rw [← r1.length, ← r2.length]; exact hz)
    refine ⟨.ref s.heap.objs.size, _, I.laid (t' := s.toks) (o := .frz _ (.tup (xs ++ ys))) (fun b ob q => Heap.get?_push_of_some _ q) (Nat.le_refl _) ⟨Heap.get?_push_size _ rfl, ?_⟩, rfl, q2 hx (fun w => z (r2.nil_iff.mpr w)) _ _ (I.hok.fresh (Nat.le_refl _)) rfl⟩
    exact ⟨by rw [List.length_append]; exact hz, _, r1.append r2, PyProof.Rows.IsTup.new _ _⟩
def rAddAll (K : PySem.W.Frag) : R2 := fun x y H Q => rBI (fun i j => i + j) x y H Q ∨ (rI0 fun i j => .int (i + j)) x y H Q ∨ (∃ i j, x = .str i ∧ y = .str j ∧ i.length + j.length ≤ sizeLine ∧ Q (.str (i ++ j)) H) ∨ rCat x y H Q ∨ rCatF K x y H Q
theorem strOk_append {x y : Str} (hx : PyData.strOk x = true) (hy : PyData.strOk y = true) : PyData.strOk (x ++ y) = true := by
  unfold PyData.strOk at hx hy ⊢
  show (x.cps ++ y.cps).all _ = true
  rw [Array.all_append, hx, hy]; rfl
theorem length_append_str (x y : Str) : (x ++ y).length = x.length + y.length := by
  show (x.cps ++ y.cps).size = _
  rw [Array.size_append]; rfl
theorem r_add : R2ok K addD (rAddAll K) := by
  intro v w H Ps d e x b c Q dom h1 h2 hx q
  cases d <;> cases e <;> first | (cases hx; done) | skip
  · cases h1.bl; cases h2.int; cases hx
    exact .inl ⟨_, _, rfl, rfl, q _ _ (Same.refl _) (.int _)⟩
  · -- ints
    cases h1.int; cases h2.int; cases hx
    exact .inr (.inl ⟨_, _, rfl, rfl, q _ _ (Same.refl _) (.int _)⟩)
  · obtain ⟨rfl, a1, a2⟩ := h1.str
    obtain ⟨rfl, b1, b2⟩ := h2.str
    rename_i s t
    simp only [addD] at hx
    by_cases z : fits (s.length + t.length) = true
    · rw [if_pos z] at hx; cases hx
      have z' : s.length + t.length ≤ sizeLine := of_decide_eq_true z
      exact .inr <| .inr (.inl ⟨_, _, rfl, rfl, z', q _ _ (Same.refl _) (.str (by rw [length_append_str]; exact z') (strOk_append a2 b2))⟩)
    · rw [if_neg z] at hx; cases hx
  · rename_i s t
    obtain ⟨a, xs, rfl, a1, a2, a3⟩ := h1.list
    obtain ⟨a', ys, rfl, b1, b2, b3⟩ := h2.list
    simp only [addD] at hx
    by_cases z : fits (s.length + t.length) = true
    · rw [if_pos z] at hx; cases hx
      have z' : s.length + t.length ≤ sizeLine := of_decide_eq_true z
      refine .inr <| .inr (.inr (.inl ⟨a, a', xs, ys, rfl, rfl, a1, b1, by rw [a2.length, b2.length]; exact z', fun p hp => ?_⟩))
      exact q _ _ (same_upd hp) (new_lst dom hp (a2.append b2) (by rw [List.length_append]; exact z'))
    · rw [if_neg z] at hx; cases hx
  · rename_i s t
    obtain ⟨a, xs, rfl, a1, a2, a3⟩ := h1.tuple
    obtain ⟨a', ys, rfl, b1, b2, b3⟩ := h2.tuple
    simp only [addD] at hx
    by_cases z : fits (s.length + t.length) = true
    · rw [if_pos z] at hx; cases hx
      have z' : s.length + t.length ≤ sizeLine := of_decide_eq_true z
      refine .inr <| .inr (.inr (.inr ⟨a, a', xs, ys, rfl, rfl, a1, b1, by rw [a2.length, b2.length]; exact z', fun hxs => ?_, fun hxs hys => ?_, fun hxs hys p o hp ho => ?_⟩))
      · subst hxs
        have : s = [] := by have := a2.length; cases s with | nil => rfl | cons _ _ => simp at this
        subst this
        refine q _ _ (Same.refl _) ?_
        rcases h2 with h2 | ⟨_, h2⟩
        · exact h2
        · exact False.elim h2
      · subst hys
        have : t = [] := by have := b2.length; cases t with | nil => rfl | cons _ _ => simp at this
        subst this
        refine q _ _ (Same.refl _) ?_
        rw [List.append_nil]
        rcases h1 with h1 | ⟨_, h1⟩
        · exact h1
        · exact False.elim h1
      · exact q _ _ (same_upd hp) (new_tup ho dom hp (a2.append b2) (by rw [List.length_append]; exact z'))
    · rw [if_neg z] at hx; cases hx
theorem r_int2 {C : Int → Int → Prop} {g : Int → Int → V} {f : Int → Int → Res D} (hf : ∀ i j x, f i j = .ok x → C i j ∧ ∀ H, Rp K H (g i j) x) : R2ok K (int2D f) (rI C g) := by
  intro v w H Ps d e x b c Q dom h1 h2 hx q
  cases d with
  | int i =>
    cases e with
    | int j =>
      cases h1.int; cases h2.int
      obtain ⟨c1, c2⟩ := hf i j x hx
      exact ⟨i, j, rfl, rfl, c1, q _ _ (Same.refl _) (c2 _)⟩
    | _ => cases hx
  | _ => cases hx
theorem r_int20 {g : Int → Int → V} {f : Int → Int → Res D} (hf : ∀ i j x, f i j = .ok x → ∀ H, Rp K H (g i j) x) : R2ok K (int2D f) (rI0 g) := by
  intro v w H Ps d e x b c Q dom h1 h2 hx q
  cases d with
  | int i =>
    cases e with
    | int j =>
      cases h1.int; cases h2.int
      exact ⟨i, j, rfl, rfl, q _ _ (Same.refl _) (hf i j x hx _)⟩
    | _ => cases hx
  | _ => cases hx
def rSubAll : R2 := fun x y H Q => rBI (fun i j => i - j) x y H Q ∨ rIB (fun i j => i - j) x y H Q ∨ (rI0 fun i j => .int (i - j)) x y H Q
theorem r_sub : R2ok K subD rSubAll := by
  intro v w H Ps d e x b c Q dom h1 h2 hx q
  cases d <;> cases e <;> first | (cases hx; done) | skip
  · cases h1.bl; cases h2.int; cases hx
    exact .inl ⟨_, _, rfl, rfl, q _ _ (Same.refl _) (.int _)⟩
  · cases h1.int; cases h2.bl; cases hx
    exact .inr (.inl ⟨_, _, rfl, rfl, q _ _ (Same.refl _) (.int _)⟩)
  · cases h1.int; cases h2.int; cases hx
    exact .inr (.inr ⟨_, _, rfl, rfl, q _ _ (Same.refl _) (.int _)⟩)
theorem r_mod : R2ok K modD (rI (fun _ j => 0 < j) fun i j => .int (i % j)) := r_int2 fun i j x h => by
  split at h
  · rename_i z; cases h; have z' := of_decide_eq_true z; exact ⟨z', fun H => .int _⟩
  · cases h
theorem r_pow : R2ok K powD (rI CPow fun i j => .int (i ^ j.toNat)) := r_int2 fun i j x h => by
  split at h
  · rename_i z; cases h; have z' := of_decide_eq_true z; exact ⟨z', fun H => .int _⟩
  · cases h
theorem r_eq : R2ok K eqD (rEqM K) := by
  intro v w H Ps d e x b c Q dom h1 h2 hx q
  unfold eqD at hx
  split at hx
  · rename_i z
    cases hx
    simp only [eqOk, Bool.and_eq_true, decide_eq_true_eq] at z
    obtain ⟨a1, a2⟩ := h1.dp z.1.1
    obtain ⟨b1, b2⟩ := h2.dp z.1.2
    exact ⟨d, e, a1, b1, a2, b2, z.2, q _ _ (Same.refl _) (.bl _)⟩
  · cases hx
theorem r_ne : R2ok K neD (rNeM K) := by
  intro v w H Ps d e x b c Q dom h1 h2 hx q
  unfold neD at hx
  split at hx
  · rename_i z
    cases hx
    simp only [eqOk, Bool.and_eq_true, decide_eq_true_eq] at z
    obtain ⟨a1, a2⟩ := h1.dp z.1.1
    obtain ⟨b1, b2⟩ := h2.dp z.1.2
    exact ⟨d, e, a1, b1, a2, b2, z.2, q _ _ (Same.refl _) (.bl _)⟩
  · cases hx
def rLtAll : R2 := fun x y H Q => (rI0 fun i j => .bl (decide (i < j))) x y H Q ∨ (∃ i j, x = .str i ∧ y = .str j ∧ Q (.bl (decide (i.cps.toList < j.cps.toList))) H)
def rGtAll : R2 := fun x y H Q => (rI0 fun i j => .bl (decide (j < i))) x y H Q ∨ (∃ i j, x = .str i ∧ y = .str j ∧ Q (.bl (decide (j.cps.toList < i.cps.toList))) H)
def rGeAll : R2 := fun x y H Q => (rI0 fun i j => .bl (decide (j ≤ i))) x y H Q ∨ (∃ i j, x = .str i ∧ y = .str j ∧ Q (.bl (!decide (i.cps.toList < j.cps.toList))) H)
theorem r_gt : R2ok K gtD rGtAll := by
  intro v w H Ps d e x b c Q dom h1 h2 hx q
  cases d <;> cases e <;> first | (cases hx; done) | skip
  · cases h1.int; cases h2.int; cases hx
    exact .inl ⟨_, _, rfl, rfl, q _ _ (Same.refl _) (.bl _)⟩
  · obtain ⟨rfl, _, _⟩ := h1.str; obtain ⟨rfl, _, _⟩ := h2.str; cases hx
    exact .inr ⟨_, _, rfl, rfl, q _ _ (Same.refl _) (.bl _)⟩
theorem r_ge : R2ok K geD rGeAll := by
  intro v w H Ps d e x b c Q dom h1 h2 hx q
  cases d <;> cases e <;> first | (cases hx; done) | skip
  · cases h1.int; cases h2.int; cases hx
    exact .inl ⟨_, _, rfl, rfl, q _ _ (Same.refl _) (.bl _)⟩
  · obtain ⟨rfl, _, _⟩ := h1.str; obtain ⟨rfl, _, _⟩ := h2.str; cases hx
    exact .inr ⟨_, _, rfl, rfl, q _ _ (Same.refl _) (.bl _)⟩
def rLeAll : R2 := fun x y H Q => (rI0 fun i j => .bl (decide (i ≤ j))) x y H Q ∨ (∃ i j, x = .str i ∧ y = .str j ∧ Q (.bl (!decide (j.cps.toList < i.cps.toList))) H)
theorem r_lt : R2ok K ltD rLtAll := by
  intro v w H Ps d e x b c Q dom h1 h2 hx q
  cases d <;> cases e <;> first | (cases hx; done) | skip
  · cases h1.int; cases h2.int; cases hx
    exact .inl ⟨_, _, rfl, rfl, q _ _ (Same.refl _) (.bl _)⟩
  · obtain ⟨rfl, _, _⟩ := h1.str; obtain ⟨rfl, _, _⟩ := h2.str; cases hx
    exact .inr ⟨_, _, rfl, rfl, q _ _ (Same.refl _) (.bl _)⟩
theorem r_le : R2ok K leD rLeAll := by
  intro v w H Ps d e x b c Q dom h1 h2 hx q
  cases d <;> cases e <;> first | (cases hx; done) | skip
  · cases h1.int; cases h2.int; cases hx
    exact .inl ⟨_, _, rfl, rfl, q _ _ (Same.refl _) (.bl _)⟩
  · obtain ⟨rfl, _, _⟩ := h1.str; obtain ⟨rfl, _, _⟩ := h2.str; cases hx
    exact .inr ⟨_, _, rfl, rfl, q _ _ (Same.refl _) (.bl _)⟩
/-- which of V's forms a value has -/
theorem RL.form {H : Hp} {Ps : List Addr} {b : Bool} {v : V} {d : D} (h : RL K H Ps b v d) : decide (v = .non) = isNone d ∧ ∀ c, decide (v = .bl c) = isBool c d := by
  cases d with
  | none => cases h.non; exact ⟨rfl, fun c => rfl⟩
  | bool c' => cases h.bl; exact ⟨rfl, fun c => by cases c <;> cases c' <;> rfl⟩
  | int i => cases h.int; exact ⟨rfl, fun c => rfl⟩
  | str x => obtain ⟨rfl, _⟩ := h.str; exact ⟨rfl, fun c => rfl⟩
  | list ds => obtain ⟨a, xs, rfl, _⟩ := h.list; exact ⟨rfl, fun c => rfl⟩
  | tuple ds => obtain ⟨a, xs, rfl, _⟩ := h.tuple; exact ⟨rfl, fun c => rfl⟩
  | dict kvs =>
    rcases h with h | ⟨_, h⟩
    · cases h <;> exact ⟨rfl, fun c => rfl⟩
    · obtain ⟨p, ks, rfl, _⟩ := h
      exact ⟨rfl, fun c => rfl⟩
def rIsAll : R2 := fun x y H Q => (y = .non ∧ Q (.bl (decide (x = .non))) H) ∨ (∃ c, y = .bl c ∧ Q (.bl (decide (x = .bl c))) H)
def rIsNotAll : R2 := fun x y H Q => (y = .non ∧ Q (.bl (!decide (x = .non))) H) ∨ (∃ c, y = .bl c ∧ Q (.bl (!decide (x = .bl c))) H)
theorem r_is : R2ok K isD rIsAll := by
  intro v w H Ps d e x b c Q dom h1 h2 hx q
  obtain ⟨f1, f2⟩ := h1.form
  cases e with
  | none =>
    cases h2.non
    cases hx
    refine .inl ⟨rfl, ?_⟩
    rw [f1]
    exact q _ _ (Same.refl _) (.bl _)
  | bool e =>
    cases h2.bl
    cases hx
    refine .inr ⟨e, rfl, ?_⟩
    rw [f2]
    exact q _ _ (Same.refl _) (.bl _)
  | _ => cases hx
theorem r_isnot : R2ok K isnotD rIsNotAll := by
  intro v w H Ps d e x b c Q dom h1 h2 hx q
  obtain ⟨f1, f2⟩ := h1.form
  cases e with
  | none =>
    cases h2.non
    cases hx
    refine .inl ⟨rfl, ?_⟩
    rw [f1]
    exact q _ _ (Same.refl _) (.bl _)
  | bool e =>
    cases h2.bl
    cases hx
    refine .inr ⟨e, rfl, ?_⟩
    rw [f2]
    exact q _ _ (Same.refl _) (.bl _)
  | _ => cases hx
end
end Tq

/-! Tq, part E: further readings. -/
namespace Tq
open PySem L2 Res
section
variable {K : PySem.W.Frag}
/-- in -/
def rInDct (neg : Bool) : R2 := fun x y H Q => ∃ a o, y = .ref a ∧ DGet H a x o ∧ Q (.bl (if neg then !o.isSome else o.isSome)) H
theorem op_inDct {X : Cx} (hu : X.A.units + 64 < cLine) : OpR X (compareOp .In) (rInDct false) := by
  intro pins s σ H x y v u Q I rx ry h
  obtain ⟨a, o, rfl, g, q⟩ := h
  cases ry
  exact d_in (by omega) I g rx fun s3 I3 => ⟨.bl o.isSome, H, I3, rfl, q⟩
theorem op_notInDct {X : Cx} (hu : X.A.units + 64 < cLine) : OpR X (compareOp .NotIn) (rInDct true) := by
  intro pins s σ H x y v u Q I rx ry h
  obtain ⟨a, o, rfl, g, q⟩ := h
  cases ry
  exact d_notIn (by omega) I g rx fun s3 I3 => ⟨.bl (!o.isSome), H, I3, rfl, q⟩
theorem dget_of {H : Hp} {Ps : List Addr} {a : Addr} {ks : List (Key × V)} {k : Str} (h : Rd H a (.dK ks)) : DGet H a (.str k) (valV ks (.inr k)) := .inl ⟨ks, .inr k, h, rfl, rfl⟩
def rInAll (K : PySem.W.Frag) (neg : Bool) : R2 := fun x y H Q => rInDct neg x y H Q ∨ (∃ (c : Nat) (z : Str), x = .str ⟨#[c]⟩ ∧ y = .str z ∧ Q (.bl (if neg then !decide (c ∈ z.cps.toList) else decide (c ∈ z.cps.toList))) H) ∨ rInM K neg x y H Q
theorem one_sign {x : Str} (h : x.length = 1) : x = ⟨#[x.cps.getD 0 0]⟩ := by
  obtain ⟨cps⟩ := x
  have h' : cps.size = 1 := h
  cases cps with
  | mk l =>
    cases l with
    | nil => simp at h'
    | cons a r =>
      cases r with
      | nil => rfl
      | cons _ _ => simp at h'
theorem r_inB {neg : Bool} : ∀ (v w : V) (H : Hp) (Ps : List Addr) (d e : D) (x : Bool) (b c : Bool) (Q : VK), RL K H Ps b v d → RL K H Ps c w e → inB d e = .ok x → Q (.bl (if neg then !x else x)) H → rInAll K neg v w H Q := by
  intro v w H Ps d e x b c Q h1 h2 hx q
  have seq : ∀ ds, inSeq d ds = .ok x → (Dp K H w (.list ds) ∨ Dp K H w (.tuple ds)) → PyData.canLayAll0 ds = true → rInAll K neg v w H Q := fun ds hs hd hc => by
    unfold inSeq at hs
    split at hs
    · rename_i z
      cases hs
      simp only [inOk, Bool.and_eq_true, decide_eq_true_eq] at z
      obtain ⟨a1, a2⟩ := h1.dp z.1.1
      exact .inr (.inr ⟨d, ds, a1, hd, a2, hc, z.2, q⟩)
    · cases hs
  have nd : ∀ ds, inSeq d ds = .ok x → noDicts ds = true := fun ds hs => by
    unfold inSeq at hs
    split at hs
    · rename_i z
      simp only [inOk, Bool.and_eq_true, decide_eq_true_eq] at z
      exact z.1.2
    · cases hs
  cases e with
  | str y =>
    obtain ⟨rfl, _, _⟩ := h2.str
    cases d with
    | str z =>
      obtain ⟨rfl, _, _⟩ := h1.str
      have hx' : (if decide (z.length = 1) = true then Res.ok (decide (z.cps.getD 0 0 ∈ y.cps.toList)) else .bad) = .ok x := hx
      split at hx'
      · rename_i hz
        cases hx'
        exact .inr (.inl ⟨z.cps.getD 0 0, y, congrArg V.str (one_sign (of_decide_eq_true hz)), rfl, q⟩)
      · cases hx'
    | _ => cases hx
  | tuple ds =>
    obtain ⟨a1, a2⟩ := h2.dp (by simpa [noDict] using nd ds hx)
    exact seq ds hx (.inr a1) (by simpa [PyData.canLay0] using a2)
  | list ds =>
    obtain ⟨a1, a2⟩ := h2.dp (by simpa [noDict] using nd ds hx)
    exact seq ds hx (.inl a1) (by simpa [PyData.canLay0] using a2)
  | dict kvs =>
    cases d with
    | str k =>
      obtain ⟨rfl, _, _⟩ := h1.str
      have hx : (if isKeyed kvs = true then Res.ok (lookD k kvs).isSome else .bad) = .ok x := hx
      by_cases hk : isKeyed kvs = true
      · rw [if_pos hk] at hx
        cases hx
        obtain ⟨a, ks, rfl, e1, r, _⟩ := h2.dct hk
        rw [r.there k] at q
        exact .inl ⟨a, _, rfl, dget_of (Ps := Ps) e1, q⟩
      · rw [if_neg hk] at hx; cases hx
    | _ => cases hx
  | _ => cases hx
theorem r_in : R2ok K inD (rInAll K false) := by
  intro v w H Ps d e x b c Q dom h1 h2 hx q
  cases hb : inB d e with
  | ok t =>
    unfold inD at hx; rw [hb] at hx; cases hx
    exact r_inB v w H Ps d e t b c Q h1 h2 hb (q _ _ (Same.refl _) (.bl _))
  | exc _ _ => unfold inD at hx; rw [hb] at hx; cases hx
  | bad => unfold inD at hx; rw [hb] at hx; cases hx
theorem r_notin : R2ok K notinD (rInAll K true) := by
  intro v w H Ps d e x b c Q dom h1 h2 hx q
  cases hb : inB d e with
  | ok t =>
    unfold notinD at hx; rw [hb] at hx; cases hx
    exact r_inB v w H Ps d e t b c Q h1 h2 hb (q _ _ (Same.refl _) (.bl _))
  | exc _ _ => unfold notinD at hx; rw [hb] at hx; cases hx
  | bad => unfold notinD at hx; rw [hb] at hx; cases hx
/-- items -/
theorem atI_mem {α : Type} {xs : List α} {i : Int} {v : α} (h : L2.atI xs i = some v) : v ∈ xs := by
  obtain ⟨j, _, e, _⟩ := atI_get h
  exact List.mem_of_getElem? e
def rIxD : R2 := fun x y H Q => ∃ a v, x = .ref a ∧ DGet H a y (some v) ∧ Q v H
theorem ix_dct {X : Cx} (hu : X.A.units + 64 < cLine) : IxR X rIxD := by
  intro value slice pins s σ H x y v u Q I rx ry h hs
  obtain ⟨a, w, rfl, g, q⟩ := h
  cases rx
  exact PyProof.Rows.tail_any (dict_typeIs I g) PySem.F.slot_dict_getitem.lookup (d_getItem (by omega) I g ry fun w' s3 I3 rw' => ⟨w, H, I3, rw', q⟩) hs
def rIxAll (K : PySem.W.Frag) : R2 := fun x y H Q => rIxD x y H Q ∨ rIx K x y H Q
theorem keyed_of_look {k : Str} : ∀ {kvs : List (D × D)} {d : D}, lookD k kvs = some d → (∃ xs, kvs = [(PyData.none, PyData.list xs)]) → False
  | _, d, h, ⟨xs, e⟩ => by subst e; cases h
theorem r_idx : R2ok K idxD (rIxAll K) := by
  intro v w H Ps d e x b c Q dom h1 h2 hx q
  cases d with
  | list xs =>
    cases e with
    | int i =>
      cases h2.int
      obtain ⟨a, vs, rfl, e1, r, _⟩ := h1.list
      have hx' : (match L2.atI xs i with | some d => Res.ok d | none => .bad) = .ok x := hx
      cases ha : L2.atI xs i with
      | none => rw [ha] at hx'; cases hx'
      | some y =>
        rw [ha] at hx'; cases hx'
        obtain ⟨u, hu, ru⟩ := r.atI ha
        exact .inr <| .inl ⟨a, vs, i, u, rfl, rfl, SqL.of e1, hu, q _ _ (Same.refl _) ru⟩
    | _ => cases hx
  | tuple xs =>
    cases e with
    | int i =>
      cases h2.int
      obtain ⟨a, vs, rfl, e1, r, _⟩ := h1.tuple
      have hx' : (match L2.atI xs i with | some d => Res.ok d | none => .bad) = .ok x := hx
      cases ha : L2.atI xs i with
      | none => rw [ha] at hx'; cases hx'
      | some y =>
        rw [ha] at hx'; cases hx'
        obtain ⟨u, hu, ru⟩ := r.atI ha
        exact .inr <| .inr (.inl ⟨a, vs, i, u, rfl, rfl, e1, hu, q _ _ (Same.refl _) ru⟩)
    | _ => cases hx
  | str y =>
    cases e with
    | int i =>
      cases h2.int
      obtain ⟨rfl, z1, z2⟩ := h1.str
      have hx' : (match L2.atI y.cps.toList i with | some c => Res.ok (PyData.str ⟨#[c]⟩) | none => .bad) = .ok x := hx
      cases ha : L2.atI y.cps.toList i with
      | none => rw [ha] at hx'; cases hx'
      | some c =>
        rw [ha] at hx'; cases hx'
        exact .inr <| .inr (.inr ⟨y, i, c, rfl, rfl, z1, ha, q _ _ (Same.refl _) (Rp.sing z2 (atI_mem ha))⟩)
    | _ => cases hx
  | dict kvs =>
    rcases h1 with h1 | ⟨_, h1⟩
    · cases h1 with
      | scr hs r z =>
        rename_i a vs xs
        cases e with
        | int i =>
          cases h2.int
          have hx' : (match L2.atI xs i with | some d => Res.ok d | none => .bad) = .ok x := hx
          cases ha : L2.atI xs i with
          | none => rw [ha] at hx'; cases hx'
          | some y =>
            rw [ha] at hx'; cases hx'
            obtain ⟨u, hu, ru⟩ := r.atI ha
            exact .inr <| .inl ⟨_, _, i, u, rfl, rfl, (hide_le _ _).seq hs, hu, q _ _ (Same.refl _) ru⟩
        | _ => cases hx
      | dct hs r z =>
        rename_i a ks
        have hx : getD' kvs e = .ok x := by
          cases r with
          | nil => exact hx
          | cons _ _ _ _ => exact hx
        cases e with
        | str k =>
          obtain ⟨rfl, _, _⟩ := h2.str
          have hx' : (match lookD k kvs with | some d => Res.ok d | none => .bad) = .ok x := hx
          cases ha : lookD k kvs with
          | none => rw [ha] at hx'; cases hx'
          | some y =>
            rw [ha] at hx'; cases hx'
            obtain ⟨u, hu, ru⟩ := (r.look k).1 _ ha
            have hs' : Rd H a (.dK ks) := hs.elim (fun q => .inl (hide_le _ _ _ _ q)) fun ⟨o, q⟩ => .inr ⟨o, hide_le _ _ _ _ q⟩
            exact .inl ⟨_, u, rfl, hu ▸ dget_of (Ps := Ps) hs', q _ _ (Same.refl _) ru⟩
        | _ => cases hx
    · obtain ⟨p, ks, rfl, hp, e1, r, z⟩ := h1
      have hx : getD' kvs e = .ok x := by
        cases r with
        | nil => exact hx
        | cons _ _ _ _ => exact hx
      cases e with
      | str k =>
        obtain ⟨rfl, _, _⟩ := h2.str
        have hx' : (match lookD k kvs with | some d => Res.ok d | none => .bad) = .ok x := hx
        cases ha : lookD k kvs with
        | none => rw [ha] at hx'; cases hx'
        | some y =>
          rw [ha] at hx'; cases hx'
          obtain ⟨u, hu, ru⟩ := (r.look k).1 _ ha
          exact .inl ⟨_, u, rfl, hu ▸ dget_of (Ps := Ps) (.inl e1), q _ _ (Same.refl _) ru⟩
      | _ => cases hx
  | _ => cases hx
/-- len -/
theorem r_len : R1ok K lenD (fun v H Q => ∃ x n, [v] = [x] ∧ LenV K x H n ∧ Q (.int n) H) := by
  intro v H Ps d x b Q dom h1 hx q
  cases d with
  | str s =>
    obtain ⟨rfl, z1, z2⟩ := h1.str
    cases hx
    exact ⟨_, _, rfl, ⟨z1, rfl⟩, q _ _ (Same.refl _) (.int _)⟩
  | list xs =>
    obtain ⟨a, vs, rfl, e1, r, _⟩ := h1.list
    cases hx
    exact ⟨_, _, rfl, .inl ⟨vs, SqL.of e1, rfl⟩, by rw [r.length]; exact q _ _ (Same.refl _) (.int _)⟩
  | tuple xs =>
    obtain ⟨a, vs, rfl, e1, r, _⟩ := h1.tuple
    cases hx
    exact ⟨_, _, rfl, .inr ⟨vs, e1, rfl⟩, by rw [r.length]; exact q _ _ (Same.refl _) (.int _)⟩
  | dict kvs =>
    rcases h1 with h1 | ⟨_, h1⟩
    · cases h1 with
      | scr hs r z =>
        cases hx
        exact ⟨_, _, rfl, .inl ⟨_, (hide_le _ _).seq hs, rfl⟩, by rw [r.length]; exact q _ _ (Same.refl _) (.int _)⟩
      | dct hs r z =>
        cases r with
        | nil => cases hx
        | cons _ _ _ _ => cases hx
    · obtain ⟨p, ks, rfl, hp, e1, r, z⟩ := h1
      cases r with
      | nil => cases hx
      | cons _ _ _ _ => cases hx
  | _ => cases hx
theorem call_tuple_F {X : Cx} : CallR X (.type "tuple") (fun xs H Q => ∃ p ys, xs = [.ref p] ∧ ((SqL X.K H p ys ∧ ∀ l o, H l = none → o.dict = none → Q (.ref l) (upd H l (.frz o (.tup ys)))) ∨ (SqT X.K H p ys ∧ Q (.ref p) H))) := by
  intro pins s σ H xs us Q I r h
  obtain ⟨p, ys, rfl, h⟩ := h
  obtain ⟨u, rfl, rx⟩ := vals1 r
  cases rx
  rcases h with ⟨hq, q⟩ | ⟨hq, q⟩
  · obtain ⟨its, r', pl, hz⟩ := I.list hq
    have hlen := r'.length
    refine call_tuple_list pl.isList (fun h' kp => ?_) (by simp only [List.size_toArray] <;> omega)
    have I1 : Inv X pins σ H { s with heap := h' } := I.kept (t' := s.toks) kp
    have I2 : Inv X pins σ (upd H h'.objs.size (.frz { cls := .type "tuple", data := .seq its.toArray } (.tup ys))) { s with heap := h'.push { cls := .type "tuple", data := .seq its.toArray } } :=
      I1.laid (t' := s.toks) (fun b o e => Heap.get?_push_of_some _ e) (Nat.le_refl _) (show ObjOk X.prog X.w _ _ _ (.frz _ (.tup ys)) from ⟨Heap.get?_push_size _ rfl, hz, its, r', PyProof.Rows.IsTup.new _ _⟩)
    exact ⟨.ref h'.objs.size, _, I2, rfl, q _ _ (I1.hok.fresh (Nat.le_refl _)) rfl⟩
  · obtain ⟨its, r', pl, hz⟩ := I.tuple hq
    exact call_tuple_same pl ⟨.ref p, H, I, rfl, q⟩
theorem r_tuple : R1ok K tupleD (fun v H Q => ∃ p ys, [v] = [.ref p] ∧ ((SqL K H p ys ∧ ∀ l o, H l = none → o.dict = none → Q (.ref l) (upd H l (.frz o (.tup ys)))) ∨ (SqT K H p ys ∧ Q (.ref p) H))) := by
  intro v H Ps d x b Q dom h1 hx q
  cases d with
  | list xs =>
    obtain ⟨a, vs, rfl, e1, r, z⟩ := h1.list
    cases hx
    exact ⟨a, vs, rfl, .inl ⟨SqL.of e1, fun l o hl ho => q _ _ (same_upd hl) (new_tup ho dom hl r z)⟩⟩
  | tuple xs =>
    obtain ⟨a, vs, rfl, e1, r, z⟩ := h1.tuple
    cases hx
    refine ⟨a, vs, rfl, .inr ⟨e1, q _ _ (Same.refl _) ?_⟩⟩
    rcases h1 with h | ⟨_, h⟩
    · exact h
    · exact False.elim h
  | _ => cases hx
theorem r_list : R1ok K listD (fun v H Q => ∃ p ys, [v] = [.ref p] ∧ (SqL K H p ys ∨ SqT K H p ys) ∧ ∀ l, H l = none → Q (.ref l) (upd H l (.lst ys))) := by
  intro v H Ps d x b Q dom h1 hx q
  cases d with
  | list xs =>
    obtain ⟨a, vs, rfl, e1, r, z⟩ := h1.list
    cases hx
    exact ⟨a, vs, rfl, .inl (SqL.of e1), fun l hl => q _ _ (same_upd hl) (new_lst dom hl r z)⟩
  | tuple xs =>
    obtain ⟨a, vs, rfl, e1, r, z⟩ := h1.tuple
    cases hx
    exact ⟨a, vs, rfl, .inr e1, fun l hl => q _ _ (same_upd hl) (new_lst dom hl r z)⟩
  | _ => cases hx
theorem bools_of : ∀ {H : Hp} {vs : List V} {ds : List D} {bs : List Bool}, RpAll K H vs ds → boolsD ds = some bs → vs = bs.map V.bl
  | _, _, _, _, .nil, e => by cases e; rfl
  | H, _, _, bs, .cons (d := d) (ds := ds) h r, e => by
    cases d with
    | bool b =>
      have e' : (boolsD ds).map (b :: ·) = some bs := e
      cases q : boolsD ds with
      | none => rw [q] at e'; cases e'
      | some cs =>
        rw [q] at e'; cases e'
        cases h
        rw [bools_of r q]; rfl
    | _ => cases e
theorem r_any : R1ok K anyD (fun v H Q => rAny K [v] H Q) := by
  intro v H Ps d x b Q dom h1 hx q
  cases d with
  | list xs =>
    obtain ⟨a, vs, rfl, e1, r, z⟩ := h1.list
    have hx' : (match boolsD xs with | some bs => Res.ok (PyData.bool (bs.any id)) | none => .bad) = .ok x := hx
    cases hb : boolsD xs with
    | none => rw [hb] at hx'; cases hx'
    | some bs =>
      rw [hb] at hx'; cases hx'
      exact ⟨a, bs, rfl, SqL.of (by rw [← bools_of r hb]; exact e1), q _ _ (Same.refl _) (.bl _)⟩
  | _ => cases hx
theorem r_all : R1ok K allD (fun v H Q => rAll K [v] H Q) := by
  intro v H Ps d x b Q dom h1 hx q
  cases d with
  | list xs =>
    obtain ⟨a, vs, rfl, e1, r, z⟩ := h1.list
    have hx' : (match boolsD xs with | some bs => Res.ok (PyData.bool (bs.all id)) | none => .bad) = .ok x := hx
    cases hb : boolsD xs with
    | none => rw [hb] at hx'; cases hx'
    | some bs =>
      rw [hb] at hx'; cases hx'
      exact ⟨a, bs, rfl, SqL.of (by rw [← bools_of r hb]; exact e1), q _ _ (Same.refl _) (.bl _)⟩
  | _ => cases hx
theorem r_neg : R1ok K negD (rU fun i => .int (-i)) := by
  intro v H Ps d x b Q dom h1 hx q
  cases d with
  | int i => cases h1.int; cases hx; exact ⟨i, rfl, q _ _ (Same.refl _) (.int _)⟩
  | _ => cases hx
theorem r_int : R1ok K intD (fun v H Q => (∃ i, [v] = [.int i] ∧ Q (.int i) H) ∨ ∃ k, [v] = [.bl k] ∧ Q (.int (if k then 1 else 0)) H) := by
  intro v H Ps d x b Q dom h1 hx q
  cases d with
  | int i => cases h1.int; cases hx; exact .inl ⟨i, rfl, q _ _ (Same.refl _) (.int _)⟩
  | bool k => cases h1.bl; cases hx; exact .inr ⟨k, rfl, q _ _ (Same.refl _) (.int _)⟩
  | _ => cases hx
theorem r_not : R1ok K notD (fun v H Q => ∃ k, TruV K v H k ∧ Q (.bl (!k)) H) := by
  intro v H Ps d x b Q dom h1 hx q
  cases ht : truth d with
  | ok t => unfold notD at hx; rw [ht] at hx; cases hx; exact ⟨t, tru_of h1 ht, q _ _ (Same.refl _) (.bl _)⟩
  | exc _ _ => unfold notD at hx; rw [ht] at hx; cases hx
  | bad => unfold notD at hx; rw [ht] at hx; cases hx
/-- join -/
theorem strs_of : ∀ {H : Hp} {vs : List V} {ds : List D} {xs : List Str}, RpAll K H vs ds → strsD ds = some xs → vs = xs.map V.str ∧ ∀ x ∈ xs, PyData.strOk x = true
  | _, _, _, _, .nil, e => by cases e; exact ⟨rfl, fun _ h => nomatch h⟩
  | H, _, _, xs, .cons (d := d) (ds := ds) h r, e => by
    cases d with
    | str b =>
      have e' : (strsD ds).map (b :: ·) = some xs := e
      cases q : strsD ds with
      | none => rw [q] at e'; cases e'
      | some cs =>
        rw [q] at e'; cases e'
        cases h with
        | str h1 h2 =>
          obtain ⟨h3, h4⟩ := strs_of r q
          exact ⟨by rw [h3]; rfl, fun x hx => (List.mem_cons.mp hx).elim (fun z => z ▸ h2) (h4 x)⟩
    | _ => cases e
end
end Tq

/-! Tq, part Q: products, slices, texts, what is unlike. -/
namespace Tq
open PySem L2 Res
section
variable {X : Cx}
theorem rep_cps (c : Array Nat) : ∀ (n : Nat) (acc : Array Nat), (List.replicate n c).foldl (· ++ ·) acc = acc ++ (List.replicate n c).foldl (· ++ ·) #[]
  | 0, acc => by simp
  | n + 1, acc => by
    simp only [List.replicate_succ, List.foldl_cons]
    rw [rep_cps c n (acc ++ c), rep_cps c n (#[] ++ c)]
    simp
theorem rep_size (c : Array Nat) : ∀ n : Nat, ((List.replicate n c).foldl (· ++ ·) #[]).size = n * c.size
  | 0 => by simp
  | n + 1 => by
    simp only [List.replicate_succ, List.foldl_cons]
    rw [rep_cps c n, Array.size_append, rep_size c n, Nat.add_mul]
    simp; omega
theorem rep_all (c : Array Nat) (f : Nat → Bool) (h : c.all f = true) : ∀ n : Nat, ((List.replicate n c).foldl (· ++ ·) #[]).all f = true
  | 0 => by simp
  | n + 1 => by
    simp only [List.replicate_succ, List.foldl_cons]
    rw [rep_cps c n, Array.all_append, rep_all c f h n]
    simp [h]
theorem rep_zero {c : Array Nat} (h : c.size = 0) : ∀ n : Nat, (List.replicate n c).foldl (· ++ ·) #[] = c
  | 0 => by simp; exact Array.eq_empty_of_size_eq_zero h
  | n + 1 => by
    simp only [List.replicate_succ, List.foldl_cons]
    rw [rep_cps c n, rep_zero h n, Array.eq_empty_of_size_eq_zero h]
    simp
def rRepS : R2 := fun x y H Q => ∃ z k, x = .str z ∧ y = .int k ∧ 0 ≤ k ∧ k ≤ 1000 ∧ z.length ≤ 1000 ∧ Q (.str ⟨(List.replicate k.toNat z.cps).foldl (· ++ ·) #[]⟩) H
theorem op_repS : OpR X (binaryOp .Mult) rRepS := by
  intro pins s σ H x y v u Q I rx ry h
  obtain ⟨z, k, rfl, rfl, h0, h1, h2, q⟩ := h
  obtain ⟨t, rfl⟩ := rx
  obtain ⟨t', rfl⟩ := ry
  have hm : z.length * k.toNat ≤ 1000 * 1000 := Nat.mul_le_mul h2 (by omega)
  have hd : ¬ (k < 1) → ¬ ((z.length : Int) > (2 ^ 63 - 1) / k) := fun hk hg => by
    have : (1001 : Int) ≤ (2 ^ 63 - 1) / k := (Int.le_ediv_iff_mul_le (by omega)).mpr (by omega)
    omega
  have hsz : ∀ n : Nat, n ≤ 1000 → ((List.replicate n z.cps).foldl (· ++ ·) #[]).size ≤ sizeLine := fun n hn => by
    rw [rep_size, sizeLine_eq]
    have : n * z.cps.size ≤ 1000 * 1000 := Nat.mul_le_mul hn h2
    omega
  refine PySem.P.mul_str ?_ (fun a _ => hd a) (fun a _ => ?_) ?_
  · rw [decide_eq_false (by omega), decide_eq_false (by omega)]; rfl
  · exact decide_eq_false (by rw [sizeLine_eq]; omega)
  · by_cases c1 : k < 1
    · rw [if_pos c1]
      have : k.toNat = 0 := by omega
      rw [this] at q
      exact ⟨by decide, ⟨.str Str.empty, H, I.tok _, ⟨_, rfl⟩, q⟩⟩
    · rw [if_neg c1]
      by_cases c2 : (k == 1 || z.length == 0) = true
      · rw [if_pos c2]
        have e : (List.replicate k.toNat z.cps).foldl (· ++ ·) #[] = z.cps := by
          simp only [Bool.or_eq_true, beq_iff_eq] at c2
          rcases c2 with c2 | c2
          · subst c2; simp
          · exact rep_zero c2 _
        rw [e] at q
        exact ⟨.str z, H, I, ⟨_, rfl⟩, q⟩
      · rw [if_neg c2]
        exact ⟨hsz _ (by omega), ⟨.str _, H, I.tok _, ⟨_, rfl⟩, q⟩⟩
end
section
variable {K : PySem.W.Frag}
theorem RpAll.rep {H : Hp} {xs : List V} {ds : List D} (r : RpAll K H xs ds) : ∀ n : Nat, RpAll K H (List.replicate n xs).flatten (List.replicate n ds).flatten
  | 0 => .nil
  | n + 1 => by
    rw [List.replicate_succ, List.replicate_succ, List.flatten_cons, List.flatten_cons]
    exact r.append (RpAll.rep r n)
theorem flat_len {α : Type} (xs : List α) : ∀ n : Nat, (List.replicate n xs).flatten.length = n * xs.length
  | 0 => by simp
  | n + 1 => by rw [List.replicate_succ, List.flatten_cons, List.length_append, flat_len xs n, Nat.add_mul]; omega
def rMulAll : R2 := fun x y H Q => rBI (fun i j => i * j) x y H Q ∨ (rI CMul fun i j => .int (i * j)) x y H Q ∨ rRep x y H Q ∨ rRepS x y H Q
theorem r_mul : R2ok K mulD rMulAll := by
  intro v w H Ps d e x b c Q dom h1 h2 hx q
  cases d <;> cases e <;> first | (cases hx; done) | skip
  · cases h1.bl; cases h2.int; cases hx
    exact .inl ⟨_, _, rfl, rfl, q _ _ (Same.refl _) (.int _)⟩
  · rename_i i j
    cases h1.int; cases h2.int
    have hx : (if mulOk i j then Res.ok (PyData.int (i * j)) else .bad) = .ok x := hx
    split at hx
    · rename_i z; cases hx; have z' := of_decide_eq_true z
      exact .inr (.inl ⟨i, j, rfl, rfl, z', q _ _ (Same.refl _) (.int _)⟩)
    · cases hx
  · rename_i s k
    obtain ⟨rfl, z1, z2⟩ := h1.str; cases h2.int
    have hx : (if repOk s.length k then Res.ok (PyData.str ⟨(List.replicate k.toNat s.cps).foldl (· ++ ·) #[]⟩) else .bad) = .ok x := hx
    split at hx
    · rename_i z; cases hx; have z' := of_decide_eq_true z
      refine .inr <| .inr (.inr ⟨s, k, rfl, rfl, z'.1, z'.2.1, z'.2.2, q _ _ (Same.refl _) (.str ?_ (rep_all _ _ z2 _))⟩)
      show ((List.replicate k.toNat s.cps).foldl (· ++ ·) #[]).size ≤ sizeLine
      rw [rep_size, sizeLine_eq]
      have : k.toNat * s.cps.size ≤ 1000 * 1000 := Nat.mul_le_mul (by omega) z'.2.2
      omega
    · cases hx
  · rename_i s k
    obtain ⟨a, xs, rfl, e1, r, z1⟩ := h1.list; cases h2.int
    have hx : (if repOk s.length k then Res.ok (PyData.list (List.replicate k.toNat s).flatten) else .bad) = .ok x := hx
    split at hx
    · rename_i z; cases hx; have z' := of_decide_eq_true z
      have hz : (List.replicate k.toNat s).flatten.length ≤ sizeLine := by
        rw [flat_len, sizeLine_eq]
        have : k.toNat * s.length ≤ 1000 * 1000 := Nat.mul_le_mul (by omega) z'.2.2
        omega
      refine .inr <| .inr (.inl ⟨a, k, xs, rfl, rfl, e1, by omega, by omega, ?_, fun p hp => q _ _ (same_upd hp) (new_lst dom hp (r.rep _) hz)⟩)
      rw [flat_len] at hz
      rw [r.length, Nat.mul_comm]; exact hz
    · cases hx
/-- slices -/
theorem RpAll.cut {H : Hp} {xs : List V} {ds : List D} (r : RpAll K H xs ds) (lo hi : Option Int) : RpAll K H (cutV xs lo hi) (cutL ds lo hi) := by
  unfold cutV cutL
  rw [r.length]
  exact (r.drop _).take _
theorem cutL_len {α : Type} (xs : List α) (lo hi : Option Int) : (cutL xs lo hi).length ≤ xs.length := by
  unfold cutL
  rw [List.length_take, List.length_drop]
  omega
theorem cutL_all {α : Type} {xs : List α} {lo hi : Option Int} (h : HT.sIx xs.length 0 lo = 0 ∧ HT.sIx xs.length xs.length hi = xs.length) : cutL xs lo hi = xs := by
  unfold cutL
  rw [h.1, h.2]
  simp
theorem cutS_ok {x : Str} {lo hi : Option Int} (h : PyData.strOk x = true) : PyData.strOk (cutS x lo hi) = true := by
  unfold PyData.strOk at h ⊢
  rw [Array.all_eq_true_iff_forall_mem] at h ⊢
  intro c hc
  refine h c ?_
  unfold cutS at hc
  have hc := List.mem_toArray.mp hc
  exact Array.mem_def.mpr (List.mem_of_mem_drop (List.mem_of_mem_take hc))
def rSlF (K : PySem.W.Frag) : V → Option Int → Option Int → Hp → VK → Prop := fun x lo hi H Q => ∃ a xs, x = .ref a ∧ SqT K H a xs ∧
  (HT.sIx xs.length 0 lo = 0 ∧ HT.sIx xs.length xs.length hi = xs.length → Q (.ref a) H) ∧ (¬ (HT.sIx xs.length 0 lo = 0 ∧ HT.sIx xs.length xs.length hi = xs.length) → ∀ p o, H p = none → o.dict = none → Q (.ref p) (upd H p (.frz o (.tup (cutV xs lo hi)))))
theorem sl_tupF {X : Cx} : SlR X (rSlF X.K) := by
  intro pins s σ H x v vl vu lo hi sl Q I rx hs pl pu h
  obtain ⟨a, xs, rfl, hx, q1, q2⟩ := h
  cases rx
  obtain ⟨its, r, ht, hz⟩ := I.tuple hx
  have hlen : its.toArray.size = xs.length := by rw [List.size_toArray]; exact r.length.symm
  refine ⟨"tuple", _, PyProof.Rows.slot_tuple_getitem.lookup, ht.typeIs, ?_⟩
  by_cases hw : HT.sIx xs.length 0 lo = 0 ∧ HT.sIx xs.length xs.length hi = xs.length
  · exact getItem_tuple_whole ht hs pl pu (by rw [hlen]; exact hw) ⟨.ref a, H, I, rfl, q1 hw⟩
  · refine HT.getItem_tuple_cut ht hs pl pu (by rw [hlen]; exact hw) ?_ (by rw [hlen]; exact hz)
    rw [hlen]
    refine ⟨.ref s.heap.objs.size, _, I.laid (t' := s.toks) (o := .frz _ (.tup (cutV xs lo hi))) (fun b ob q => Heap.get?_push_of_some _ q) (Nat.le_refl _) ⟨Heap.get?_push_size _ rfl, ?_⟩, rfl, q2 hw _ _ (I.hok.fresh (Nat.le_refl _)) rfl⟩
    exact ⟨Nat.le_trans (cutV_length xs lo hi) hz, _, (r.drop (HT.sIx xs.length 0 lo)).take (HT.sIx xs.length xs.length hi - HT.sIx xs.length 0 lo), PyProof.Rows.IsTup.new _ _⟩
def rSlAll (K : PySem.W.Frag) : V → Option Int → Option Int → Hp → VK → Prop := fun x lo hi H Q => rSlL K x lo hi H Q ∨ rSlF K x lo hi H Q ∨ rSlS x lo hi H Q
theorem sl_all {X : Cx} : SlR X (rSlAll X.K) := sl_list.or (sl_tupF.or sl_str)
theorem r_sl {v : V} {H : Hp} {Ps : List Addr} {d x : D} {b : Bool} {lo hi : Option Int} {Q : VK} (dom : ∀ q ∈ Ps, H q ≠ none) (h : RL K H Ps b v d) (hx : cutD lo hi d = .ok x) (q : ∀ u H', Same H H' → Rp K (hide H' Ps) u x → Q u H') : rSlAll K v lo hi H Q := by
  cases d with
  | list xs =>
    obtain ⟨a, vs, rfl, e1, r, z⟩ := h.list
    cases hx
    exact .inl ⟨a, vs, rfl, SqL.of e1, fun p hp => q _ _ (same_upd hp) (new_lst dom hp (r.cut lo hi) (Nat.le_trans (cutL_len _ _ _) z))⟩
  | tuple xs =>
    obtain ⟨a, vs, rfl, e1, r, z⟩ := h.tuple
    cases hx
    refine .inr (.inl ⟨a, vs, rfl, e1, fun hw => ?_, fun hw p o hp ho => q _ _ (same_upd hp) (new_tup ho dom hp (r.cut lo hi) (Nat.le_trans (cutL_len _ _ _) z))⟩)
    rw [r.length] at hw
    rw [cutL_all hw] at q
    refine q _ _ (Same.refl _) ?_
    rcases h with h | ⟨_, h⟩
    · exact h
    · exact False.elim h
  | str y =>
    obtain ⟨rfl, z1, z2⟩ := h.str
    cases hx
    exact .inr (.inr ⟨y, rfl, z1, q _ _ (Same.refl _) (.str (Nat.le_trans (cutS_length y lo hi) z1) (cutS_ok z2))⟩)
  | _ => cases hx
end
end Tq

/-! Tq, part R: a tuple or list turned about; how many texts are unlike. -/
namespace Tq
open PySem L2 Res
theorem turn_pick (xs : Array Value) : ((List.range xs.size).filterMap fun (m : Nat) => xs[(((xs.size : Int) - 1) + (m : Int) * (-1)).toNat]?).toArray = xs.toList.reverse.toArray := by
  congr 1
  have e : ∀ m ∈ List.range xs.size, xs[(((xs.size : Int) - 1) + (m : Int) * (-1)).toNat]? = some (xs.toList.reverse.getD m .none) := fun m hm => by
    have hm := List.mem_range.mp hm
    have q : (((xs.size : Int) - 1) + (m : Int) * (-1)).toNat = xs.size - 1 - m := by omega
    rw [q, List.getD_eq_getElem?_getD, List.getElem?_reverse (by simpa using hm)]
    have hl : xs.size - 1 - m < xs.size := by omega
    simp [hl]
  have e2 : ∀ l : List Nat, (∀ m ∈ l, xs[(((xs.size : Int) - 1) + (m : Int) * (-1)).toNat]? = some (xs.toList.reverse.getD m .none)) → (l.filterMap fun (m : Nat) => xs[(((xs.size : Int) - 1) + (m : Int) * (-1)).toNat]?) = l.map fun m => xs.toList.reverse.getD m .none := fun l => by
    induction l with
    | nil => intro _; rfl
    | cons a l ih =>
      intro h
      rw [List.filterMap_cons, h a (by simp), List.map_cons, ih fun m hm => h m (List.mem_cons_of_mem _ hm)]
  rw [e2 _ e]
  apply List.ext_getElem?
  intro i
  rw [List.getElem?_map]
  by_cases hi : i < xs.size
  · have h2 : i < xs.toList.reverse.length := by simpa using hi
    rw [List.getElem?_range hi]
    show some (xs.toList.reverse.getD i .none) = _
    rw [List.getD_eq_getElem?_getD, List.getElem?_eq_getElem h2]
    rfl
  · rw [List.getElem?_eq_none (by simpa using hi)]
    rw [List.getElem?_eq_none (by simpa using hi)]
    rfl
section
variable {prog : Program} {w : World} {A : Around} {E : Value → Shared → Prop} {s : Shared}
theorem turned_slice {sl : Addr} {vs : Value} {n : Nat} {Q : Int × Int × Nat → Shared → Prop} (hs : s.heap.IsSliceOf sl .none .none vs) (ps : IsPart vs (some (-1)))
    (h : Q ((n : Int) - 1, -1, n) s) : wpAny (model prog w) A (Builtin.Slice.sliceApplied (.ref sl) (pure (n : Int))) Q E s := by
  obtain ⟨os, hos, hcs, hds⟩ := hs
  unfold Builtin.Slice.sliceApplied Builtin.Slice.sliceFields
  refine wpAny_bind (wpAny_bind (wpAny_field hos hds (x := .none) rfl (wpAny_bind (wpAny_field hos hds (x := .none) rfl (wpAny_bind (wpAny_field hos hds (x := vs) rfl (wpAny_pure ?_)))))))
  refine wpAny_bind (HT.slicePart_ ps ?_)
  show wpAny _ _ (if ((-1 : Int) == 0) = true then _ else _) _ _ s
  rw [if_neg (by decide)]
  refine wpAny_bind (HT.slicePart_ .none (wpAny_bind (HT.slicePart_ .none (wpAny_bind (wpAny_pure ?_)))))
  have e1 : Builtin.Slice.sliceAdjust none none (-1) (n : Int) = ((n : Int) - 1, -1) := rfl
  show wpAny _ _ (match Builtin.Slice.sliceAdjust none none (-1) (n : Int) with | (lo, hi) => pure (lo, (-1 : Int), Builtin.Slice.slicePlaces lo hi (-1))) _ _ s
  rw [e1]
  have e2 : Builtin.Slice.slicePlaces ((n : Int) - 1) (-1) (-1) = n := by
    unfold Builtin.Slice.slicePlaces
    have h1 : ¬ ((-1 : Int) > 0) := by omega
    simp only [h1, if_false, Int.neg_neg, Int.ediv_one]
    split <;> omega
  show wpAny _ _ (pure ((n : Int) - 1, (-1 : Int), Builtin.Slice.slicePlaces ((n : Int) - 1) (-1) (-1))) _ _ s
  rw [e2]
  exact wpAny_pure h
theorem turned_tuple {t sl : Addr} {xs : Array Value} {vs : Value} {Q : Value → Shared → Prop} (ht : PyProof.Rows.IsTup s.heap t xs) (hs : s.heap.IsSliceOf sl .none .none vs) (ps : IsPart vs (some (-1)))
    (h : Q (.ref s.heap.objs.size) { s with heap := s.heap.push { cls := .type "tuple", data := .seq xs.toList.reverse.toArray } }) (hz : xs.size ≤ sizeLine) : wpAny (model prog w) A (getItem (.ref t) (.ref sl)) Q E s := by
  have ok : sizeOk (.seq xs.toList.reverse.toArray) := by
    show xs.toList.reverse.toArray.size ≤ sizeLine
    simpa using hz
  obtain ⟨os, hos, hcs, hds⟩ := id hs
  have ty : s.TypeIs (.ref sl) "slice" := ⟨os, hos, hcs⟩
  unfold getItem
  try with_reducible refine wpAny_holding ?_
  first | refine wpAny_bind (wpAny_pure ?_) | skip
  refine wpAny_bind (wpAny_sequenceKey ht.typeIs (by decide) ?_)
  refine wpAny_bind (wpAny_callSpecial?_slot (name := Str.ofString "__getitem__") ht.typeIs PyProof.Rows.slot_tuple_getitem (wpAny_call_entry PyProof.Rows.slot_tuple_getitem ht.typeIs PyProof.Rows.entry_tuple_getitem ?_ (PyProof.Rows.args_tuple_getitem _ _)))
  show wpAny _ _ (Builtin.Tuple.tupleItemsOf (.ref t) >>= _) _ _ s
  refine wpAny_bind (PyProof.Rows.tupleItemsOf_ ht ?_)
  refine wpAny_bind (wpAny_typeOf ty ?_)
  rw [if_pos (by decide)]
  refine wpAny_bind (turned_slice hs ps ?_)
  have no : ¬ ((((xs.size : Int) - 1) == 0 && (-1 : Int) == 1 && xs.size == xs.size) = true) := by
    intro q
    rw [Bool.and_eq_true, Bool.and_eq_true] at q
    exact absurd q.1.2 (by decide)
  show wpAny _ _ (if (((xs.size : Int) - 1) == 0 && (-1 : Int) == 1 && xs.size == xs.size) = true then _ else _) _ _ s
  rw [if_neg no, turn_pick]
  first
    | exact wpAny_bind (m := Builtin.Tuple.tupleExact _) (wpAny_newObj_type (wpAny_pure ⟨_, rfl, wpAny_pure h⟩) ok)
    | exact wpAny_bind (m := Builtin.Tuple.tupleExact _) (wpAny_newObj_type (wpAny_bind (wpAny_pure (wpAny_pure ⟨_, rfl, wpAny_pure h⟩))) ok)
    | exact wpAny_bind (wpAny_bind (m := Builtin.Tuple.tupleExact _) (wpAny_newObj_type (wpAny_pure (wpAny_pure ⟨_, rfl, wpAny_pure h⟩)) ok))
    | exact wpAny_bind (wpAny_bind (m := Builtin.Tuple.tupleExact _) (wpAny_newObj_type (wpAny_pure ⟨_, rfl, wpAny_pure h⟩) ok))
end
section
variable {X : Cx}
def rTurn (K : PySem.W.Frag) : V → Hp → VK → Prop := fun x H Q => (∃ a xs, x = .ref a ∧ SqL K H a xs ∧ ∀ p, H p = none → Q (.ref p) (upd H p (.lst xs.reverse))) ∨ ∃ a xs, x = .ref a ∧ SqT K H a xs ∧ ∀ p o, H p = none → o.dict = none → Q (.ref p) (upd H p (.frz o (.tup xs.reverse)))
theorem pe_turn {e : Expr} {te : TE} {k : Nat} {p1 p2 p3 pos : Pos} (he : PE X e te) : PE X (.Subscript e (.Slice none none (some (.UnaryOp .USub (.Constant (.int 1) k p1) p2)) p3) pos) (tUn (rTurn X.K) te) := by
  refine ⟨fun pins s σ H Q I h => ?_⟩
  refine PyProof.Rows.Subscript_ (thn (he.run pins s σ H _ I h) fun v s1 ⟨x, H1, I1, r1, q1⟩ => ?_)
  have hst : PO X (some (.UnaryOp .USub (.Constant (.int 1) k p1) p2)) (tPart (tUn (rU fun i => .int (-i)) (tC (.int 1)))) := po_some (pe_un un_neg pe_int)
  refine wpAny_Slice (thn (po_none.run pins s1 σ H1 (fun o H2 => o = none ∧ H2 = H1) I1 ⟨rfl, rfl⟩) fun vl s2 ⟨l, H2, I2, pl, el, e2⟩ => ?_)
  subst el e2
  refine thn (po_none.run pins s2 σ H2 (fun o H3 => o = none ∧ H3 = H2) I2 ⟨rfl, rfl⟩) fun vu s3 ⟨u, H3, I3, pu, eu, e3⟩ => ?_
  subst eu e3
  refine thn (hst.run pins s3 σ H3 (fun o H4 => o = some (-1) ∧ H4 = H3) I3 ⟨1, rfl, -1, rfl, rfl, rfl⟩) fun vs s4 ⟨o, H4, I4, ps, eo, e4⟩ => ?_
  subst eo e4
  have I5 : Inv X pins σ H4 { s4 with heap := s4.heap.push { cls := .type "slice", data := .fields #[vl, vu, vs] } } := I4.kept (t' := s4.toks) fun b ob q => Heap.get?_push_of_some _ q
  rcases q1 with ⟨a, xs, ex, hx, q⟩ | ⟨a, xs, ex, hx, q⟩
  · subst ex
    cases r1
    obtain ⟨its, r, ht, hz⟩ := I5.list hx
    have hlen := r.length
    show wpAny (model X.prog X.w) X.A (PyProof.Rows.subscriptTail e (.Slice none none (some (.UnaryOp .USub (.Constant (.int 1) k p1) p2)) p3) (.ref a) (.ref s4.heap.objs.size)) (EP X pins σ Q) X.xe _
    refine PyProof.Rows.tail_any (ops := [.ref a, .ref s4.heap.objs.size]) ht.isList.typeIs (PySem.slot_list_getitem.lookup) ?_ (by with_unfolding_all rfl)
    refine wpAny_getItem_list_slice ht.isList (Heap.IsSliceOf.new _ vl vu vs) pl pu ps (by decide) ?_ (by rw [List.size_toArray]; omega)
    rw [PySem.W.krv_pick]
    exact ⟨.ref _, _, I5.laid (t' := s4.toks) (o := .lst xs.reverse) (fun b ob q => Heap.get?_push_of_some _ q) (Nat.le_refl _) ⟨by rw [List.length_reverse]; exact hz, _, 0, r.reverse, Heap.get?_push_size _ rfl⟩, rfl, q _ (I5.hok.fresh (Nat.le_refl _))⟩
  · subst ex
    cases r1
    obtain ⟨its, r, ht, hz⟩ := I5.tuple hx
    have hlen := r.length
    cases pl
    cases pu
    show wpAny (model X.prog X.w) X.A (PyProof.Rows.subscriptTail e (.Slice none none (some (.UnaryOp .USub (.Constant (.int 1) k p1) p2)) p3) (.ref a) (.ref s4.heap.objs.size)) (EP X pins σ Q) X.xe _
    refine PyProof.Rows.tail_any (ops := [.ref a, .ref s4.heap.objs.size]) ht.typeIs (PyProof.Rows.slot_tuple_getitem.lookup) ?_ (by with_unfolding_all rfl)
    refine turned_tuple ht (Heap.IsSliceOf.new _ .none .none vs) ps ?_ (by rw [List.size_toArray]; omega)
    exact ⟨.ref _, _, I5.laid (t' := s4.toks) (o := .frz _ (.tup xs.reverse)) (fun b ob q => Heap.get?_push_of_some _ q) (Nat.le_refl _) ⟨Heap.get?_push_size _ rfl, by rw [List.length_reverse]; exact hz, _, r.reverse, PyProof.Rows.IsTup.new _ _⟩, rfl, q _ _ (I5.hok.fresh (Nat.le_refl _)) rfl⟩
end
section
variable {K : PySem.W.Frag}
theorem RpAll.turn {H : Hp} : ∀ {xs : List V} {ds : List D}, RpAll K H xs ds → RpAll K H xs.reverse ds.reverse
  | _, _, .nil => .nil
  | _, _, .cons h r => by
    rw [List.reverse_cons, List.reverse_cons]
    exact (RpAll.turn r).append (.cons h .nil)
theorem r_rev : R1ok K revD (rTurn K) := by
  intro v H Ps d x b Q dom h1 hx q
  cases d with
  | list xs =>
    obtain ⟨a, vs, rfl, e1, r, z⟩ := h1.list
    cases hx
    exact .inl ⟨a, vs, rfl, SqL.of e1, fun l hl => q _ _ (same_upd hl) (new_lst dom hl r.turn (by simpa using z))⟩
  | tuple xs =>
    obtain ⟨a, vs, rfl, e1, r, z⟩ := h1.tuple
    cases hx
    exact .inr ⟨a, vs, rfl, e1, fun l o hl ho => q _ _ (same_upd hl) (new_tup ho dom hl r.turn (by simpa using z))⟩
  | _ => cases hx
end
end Tq

/-! Tq, part S: sorted(set(texts)), sorted(texts). -/
namespace Tq
open PySem L2 Res
open PyProof.Rows (StrsAre strOf)
def addU (acc : List Str) (x : Str) : List Str := if acc.any (· == x) then acc else acc ++ [x]
theorem unlike_eq (xs : List Str) : unlike xs = xs.foldl addU [] := rfl
theorem unlike_snoc (xs : List Str) (x : Str) : unlike (xs ++ [x]) = addU (unlike xs) x := by
  rw [unlike_eq, unlike_eq, List.foldl_append]; rfl
theorem addU_len (acc : List Str) (x : Str) : (addU acc x).length ≤ acc.length + 1 := by
  unfold addU
  split
  · omega
  · simp
theorem unlike_len : ∀ xs : List Str, (unlike xs).length ≤ xs.length := fun xs => by
  have h : ∀ (ys acc : List Str), (ys.foldl addU acc).length ≤ acc.length + ys.length := fun ys => by
    induction ys with
    | nil => intro acc; exact Nat.le_refl _
    | cons y ys ih =>
      intro acc
      rw [List.foldl_cons, List.length_cons]
      have := ih (addU acc y)
      have := addU_len acc y
      omega
  have := h xs []
  rw [unlike_eq]; simpa using this
theorem addU_has (acc : List Str) (x k : Str) : (addU acc x).any (· == k) = (acc.any (· == k) || decide (k = x)) := by
  unfold addU
  by_cases h : acc.any (· == x) = true
  · rw [if_pos h]
    by_cases e : k = x
    · rw [e, h]; rfl
    · rw [decide_eq_false e, Bool.or_false]
  · rw [if_neg h, List.any_append]
    congr 1
    by_cases e : k = x
    · rw [e]; simp
    · rw [decide_eq_false e]
      have : (x == k) = false := beq_eq_false_iff_ne.mpr fun z => e z.symm
      simp [this]
theorem addU_many (acc : List Str) (x : Str) : (addU acc x).length = if acc.any (· == x) then acc.length else acc.length + 1 := by
  unfold addU; split <;> simp
def txt (e : Int × Value) : Str := strOf e.2
/-- a set of texts, its table in order -/
structure TexD (P : Program) (w : World) (es : Array (Int × Value)) (t : SetTable) (ks : List Str) : Prop where
  el : ElemsOf (PySem.strKind P w) es.toList
  pm : (es.toList.map txt).Perm ks
  few : es.size < scanBound
  fit : t.fits es.size = true
  ris : Ris t.place.toList
  led : w.params.followText "set-order" = true ∨ t.led = true
def Tex (P : Program) (w : World) (h : Heap) (a : Addr) (ks : List Str) : Prop := ∃ o es ep t, h.get? a = some o ∧ o.ExactSet ∧ o.data = .set es ep t ∧ TexD P w es t ks
section
variable {P : Program} {w : World} {A : Around} {E : Value → Shared → Prop} {s : Shared} {a : Addr}
theorem txt_str {e : Int × Value} {k : Str} (h : (PySem.strKind P w).is k e.2 = true) : ∃ u, e.2 = .str k u := by
  obtain ⟨hh, v⟩ := e
  cases v <;> first | (cases h; done) | skip
  rename_i x u
  have : x = k := by
    have h : (x == k) = true := h
    exact eq_of_beq h
  subst this
  exact ⟨u, rfl⟩
theorem txt_is {e : Int × Value} {k : Str} (h : (PySem.strKind P w).is k e.2 = true) : txt e = k := by
  obtain ⟨u, hu⟩ := txt_str h
  unfold txt
  rw [hu]; rfl
theorem is_txt {es : List (Int × Value)} (el : ElemsOf (PySem.strKind P w) es) {e : Int × Value} (he : e ∈ es) : (PySem.strKind P w).is (txt e) e.2 = true := by
  obtain ⟨⟨k, hk, _⟩, _⟩ := el e he
  rw [txt_is hk]; exact hk
/-- behind the place of a new text -/
theorem tex_tail {g : Bool → Sem Unit} (hg : ∀ (b : Bool) (s' : Shared) (Q' : Unit → Shared → Prop), Q' () s' → wpAny (model P w) A (g b) Q' E s') {o : Obj} {es es1 : Array (Int × Value)} {ep : Nat} {t t2 : SetTable} {ks : List Str}
    (ho : s.heap.get? a = some o) (hex : o.ExactSet) (hd : o.data = .set es ep t) (T : TexD P w es1 t2 ks) {wasDummy : Bool} {R : Option Bool → Shared → Prop}
    (fin : ∀ h', Heap.SameBut a s.heap h' → Tex P w h' a ks → R (some true) { s with heap := h' }) :
    wpAny (model P w) A (do
        storeSet a es1 t2
        if (!wasDummy && t2.tooFull) = true then do
            g (relayAll t2 es1 (SetTable.grown es1.size)).2.2
            storeSet a (relayAll t2 es1 (SetTable.grown es1.size)).1 (relayAll t2 es1 (SetTable.grown es1.size)).2.1
            pure (some true)
          else pure (some true)) R E s := by
  refine wpAny_bind (wpAny_storeSet_of ho hd ?_ (fits_of_scanBound T.few))
  have o1 := store_at (es' := es1) (t' := t2) ho hd
  have b1 := Heap.SameBut.update s.heap a (Obj.putSet es1 t2)
  split
  · have z1 := relayAll_perm t2 es1 (SetTable.grown es1.size)
    have z2 := relayAll_fits t2 es1 (SetTable.grown es1.size)
    have z3 := relayAll_ris t2 es1 (SetTable.grown es1.size)
    have z4 := relayAll_led t2 es1 (SetTable.grown es1.size)
    generalize relayAll t2 es1 (SetTable.grown es1.size) = Z at z1 z2 z3 z4 ⊢
    obtain ⟨es2, t3, gv⟩ := Z
    dsimp only at z1 z2 z3 z4 ⊢
    have sz : es2.size = es1.size := by
      have := z1.length_eq
      simpa using this
    have few2 : es2.size < scanBound := by rw [sz]; exact T.few
    refine wpAny_bind (hg _ _ _ ?_)
    refine wpAny_bind (wpAny_storeSet_of o1 rfl ?_ (fits_of_scanBound few2))
    have o2 := store_at (es' := es2) (t' := t3) o1 rfl
    refine wpAny_pure (fin _ (b1.trans (Heap.SameBut.update _ a _)) ⟨_, es2, _, t3, o2, hex, rfl, ?_⟩)
    exact ⟨T.el.perm z1, (z1.map txt).trans T.pm, few2, z2, z3, T.led.imp id fun z => z4.trans z⟩
  · exact wpAny_pure (fin _ b1 ⟨_, es1, _, t2, o1, hex, rfl, T⟩)
theorem tex_add {ks : List Str} {k : Str} {u : Tok} {Q : Bool → Shared → Prop} (T : Tex P w s.heap a ks) (room : ks.length + 1 < scanBound)
    (fin : ∀ b h', Heap.SameBut a s.heap h' → Tex P w h' a (addU ks k) → Q b { s with heap := h' }) :
    wpAny (model P w) A (setAddHashed a (.str k u) ((PySem.strKind P w).hash k)) Q E s := by
  obtain ⟨o, es, ep, t, ho, hex, hd, T⟩ := T
  have key : (PySem.strKind P w).is k (.str k u) = true := PySem.strKind_is P w k u
  have scn : (Value.str k u).scannable = true := rfl
  have ln : es.size = ks.length := by
    have := T.pm.length_eq
    simpa using this
  unfold setAddHashed setAddHashedIn
  refine wpAny_holding (wpAny_bind (wpAny_setState_of ho hd T.fit ?_))
  dsimp only
  rw [byScan_of scn T.few T.el]
  simp only [↓reduceIte]
  unfold setAddByScan
  refine wpAny_bind (wpAny_bind (wpAny_rule ?_))
  refine wpAny_bind (wpAny_setScan_of key ho hd T.fit T.el ?_)
  cases fi : List.findIdx? (fun e => (PySem.strKind P w).is k e.2) es.toList with
  | some j =>
    dsimp only
    obtain ⟨lt, pj, _⟩ := List.findIdx?_eq_some_iff_getElem.mp fi
    have mem : k ∈ ks := T.pm.mem_iff.mp (List.mem_map.mpr ⟨_, List.getElem_mem lt, txt_is pj⟩)
    have same : addU ks k = ks := by
      unfold addU
      rw [if_pos (List.any_eq_true.mpr ⟨k, mem, by simp⟩)]
    refine wpAny_pure (wpAny_pure ?_)
    have := fin false s.heap (Heap.SameBut.refl a s.heap) (by rw [same]; exact ⟨o, es, ep, t, ho, hex, hd, T⟩)
    exact this
  | none =>
    dsimp only
    have nm : k ∉ ks := fun z => by
      obtain ⟨e, he, q⟩ := List.mem_map.mp (T.pm.mem_iff.mpr z)
      have c := List.findIdx?_eq_none_iff.mp fi e he
      have i := is_txt T.el he
      rw [q] at i
      rw [i] at c
      cases c
    have new : addU ks k = ks ++ [k] := by
      unfold addU
      rw [if_neg]
      intro z
      obtain ⟨y, hy, e⟩ := List.any_eq_true.mp z
      exact nm (by rw [← eq_of_beq e]; exact hy)
    have gw : ∀ (b : Bool) {s' : Shared} {Q' : Unit → Shared → Prop}, Q' () s' → wpAny (model P w) A (match b with | true => rule "set.scan.the-table-gave-way" | false => pure ()) Q' E s' :=
      fun b s' Q' q => by cases b <;> first | exact wpAny_pure q | exact wpAny_rule q
    have y1 := layNew_perm t es ((PySem.strKind P w).hash k) (.str k u)
    have y2 := layNew_fits t es ((PySem.strKind P w).hash k) (.str k u)
    have y3 := layNew_ris t es ((PySem.strKind P w).hash k) (.str k u) T.ris
    have y4 := layNew_led t es ((PySem.strKind P w).hash k) (.str k u)
    generalize layNew t es ((PySem.strKind P w).hash k) (.str k u) = Y at y1 y2 y3 y4 ⊢
    obtain ⟨es1, t1, wd, gv⟩ := Y
    dsimp only at y1 y2 y3 y4 ⊢
    rw [Array.toList_push] at y1
    have sz : es1.size = ks.length + 1 := by
      have := y1.length_eq
      rw [List.length_append, Array.length_toList, Array.length_toList, ln] at this
      exact this
    have T1 : TexD P w es1 t1 (addU ks k) := {
      el := (T.el.push key scn).perm y1
      pm := by
        rw [new]
        refine (y1.map txt).trans ?_
        rw [List.map_append]
        exact T.pm.append (List.Perm.refl _)
      few := by rw [sz]; exact room
      fit := y2
      ris := y3
      led := T.led.imp id fun z => y4.trans z }
    have e1 : ∀ h', Heap.SameBut a s.heap h' → Tex P w h' a (addU ks k) → Q true { s with heap := h' } := fun h' sb r => fin true h' sb r
    refine wpAny_bind (gw _ ?_)
    split
    · refine wpAny_bind ?_
      rw [hashByValue_scannable 8 scn]
      refine wpAny_pure ?_
      refine tex_tail (ks := addU ks k) ?_ ho hex hd ?_ ?_
      · intro b s' Q' q; cases b <;> first | exact wpAny_pure q | exact wpAny_rule q
      · first
          | (split <;> first | exact T1 | exact ⟨T1.el, T1.pm, T1.few, SetTable.fits_plain_off T1.fit, T1.ris, T1.led⟩)
          | exact T1
      · intro h' sb r; dsimp only; exact wpAny_pure (e1 h' sb r)
    · refine wpAny_bind (wpAny_pure ?_)
      simp only [↓reduceIte]
      refine tex_tail ?_ ho hex hd T1 ?_
      · intro b s' Q' q; cases b <;> first | exact wpAny_pure q | exact wpAny_rule q
      · intro h' sb r; dsimp only; exact wpAny_pure (e1 h' sb r)
end
end Tq

/-! Tq, part U: a set made of texts; how many it holds; its texts, rising. -/
namespace Tq
open PySem L2 Res
abbrev set0 (led : Bool) : Obj := { cls := .type "set", dict := none, data := .set #[] 0 (.fresh 0 0 led) }
abbrev Texts (prog : Program) (w : World) (h : Heap) (a : Addr) (xs : List Str) : Prop := Tex prog w h a (unlike xs)
section
variable {prog : Program} {w : World} {A : Around} {R : Result → Shared → Prop} {I : Addr} {fp wr : List Addr} {G : Array GenState → Array GenState → Prop} {n : Nat} {P : Nat → Value → Prop} {At : Nat → Shared → Prop}
theorem grow (W : WalksS prog w A.in1 I fp wr G n P At) (a : Addr) (off : a ∉ fp) (xs : List Str) (len : xs.length = n) (few : n ≤ 1000) (val : ∀ i v, P i v → ∃ t, v = .str (xs.getD i Str.empty) t) :
    ∀ (m i : Nat) (s : Shared), n - i = m → i ≤ n → At i s → Texts prog w s.heap a (xs.take i) → (∀ s', Moved (a :: wr) G s s' → Texts prog w s'.heap a xs → R (.ok (.ret .none)) s') →
      codeAny (model prog w) A (.builtin "set.update.loop" ⟨[.ref a, .ref I], []⟩) R s := by
  have offw : a ∉ wr := fun z => off (W.sub _ z)
  have more : ∀ b ∈ wr, b ∈ a :: wr := fun b z => List.mem_cons_of_mem _ z
  intro m
  induction m with
  | zero =>
    intro i s em le at_ zs fin
    have ei : i = n := by omega
    subst ei
    refine codeAny_builtin PyProof.Rows.F.entry_set_update_loop ?_
    rw [Around.under_plainId PyProof.Rows.F.plain_set_update_loop _]
    show wpAny _ A.in1 (pyNext (.ref I) >>= _) _ _ s
    refine wpAny_bind (W.done s _ _ at_ fun s1 mv => wpAny_pure (fin s1 (mv.mono more) ?_))
    rw [List.take_of_length_le (by omega)] at zs
    obtain ⟨o, es, ep, t, ho, q⟩ := zs
    exact ⟨o, es, ep, t, mv.heap a _ offw ho, q⟩
  | succ m ih =>
    intro i s em le at_ zs fin
    have lt : i < n := by omega
    refine codeAny_builtin PyProof.Rows.F.entry_set_update_loop ?_
    rw [Around.under_plainId PyProof.Rows.F.plain_set_update_loop _]
    show wpAny _ A.in1 (pyNext (.ref I) >>= _) _ _ s
    refine wpAny_bind (W.item i s _ _ lt at_ fun v s1 pv at1 mv => ?_)
    obtain ⟨t, rfl⟩ := val i v pv
    have zs1 : Texts prog w s1.heap a (xs.take i) := by
      obtain ⟨o, es, ep, tb, ho, q⟩ := zs
      exact ⟨o, es, ep, tb, mv.heap a _ offw ho, q⟩
    show wpAny _ A.in1 (holding [Value.str (xs.getD i Str.empty) t] (setAdd a (.str (xs.getD i Str.empty) t)) >>= _) _ _ s1
    refine wpAny_bind (wpAny_holding ?_)
    unfold setAdd
    refine wpAny_holding (wpAny_bind ((PySem.strKind prog w).pyHash (k := xs.getD i Str.empty) (strKind_is _ _ _ _) ?_))
    have room : (unlike (xs.take i)).length + 1 < scanBound := by
      have := unlike_len (xs.take i)
      rw [List.length_take] at this
      unfold scanBound; omega
    have step : xs.take (i + 1) = xs.take i ++ [xs.getD i Str.empty] := by
      have hl : i < xs.length := by omega
      rw [List.take_add_one, List.getD_eq_getElem?_getD, List.getElem?_eq_getElem hl]; rfl
    refine tex_add (s := { s1 with toks := s1.toks + 1 }) zs1 room fun _ h2 sb zs2 => ?_
    have zs3 : Texts prog w h2 a (xs.take (i + 1)) := by
      unfold Texts
      rw [step, unlike_snoc]
      exact zs2
    have keep : ∀ b o, b ≠ a → s1.heap.get? b = some o → h2.get? b = some o := fun b o ne e => (sb.2 b ne).trans e
    refine wpAny_pure ⟨plainId_quiet PyProof.Rows.F.plain_set_update_loop _, ih (i + 1) _ (by omega) lt (W.frame _ s1 _ _ at1 (Nat.le_succ _) fun b hb o e => keep b o (fun z => off (z ▸ hb)) e) zs3 fun s2 mv2 zs4 => ?_⟩
    exact fin s2 (Moved.trans W.gtrans ((mv.mono more).then_heap (Nat.le_succ _) fun b o hb e => keep b o (fun z => hb (z ▸ List.mem_cons_self)) e) mv2) zs4
end
section
variable {prog : Program} {w : World} {A : Around} {E : Value → Shared → Prop} {s : Shared}
theorem set_texts {T : String} {l : Addr} {vs : Array Value} {xs : List Str} {Q : Value → Shared → Prop} {itO : Obj} {Hs : Heap → Prop} {St : Addr → Nat → Heap → Prop} (nh : A.handled = none) (src : ∃ o n, s.heap.get? l = some o ∧ o.cls = .type T ∧ o.data = .seq vs n) (hs : Hs s.heap) (B : Begins (.ref l) itO Hs)
    (W : ∀ (A' : Around), A'.handled = none → ∀ I, l ≠ I → Walks prog w A' I [I, l] [I] vs.size (fun i v => vs[i]? = some v) (St I)) (st0 : ∀ I h, h.get? I = some itO → Hs h → St I 0 h)
    (k1 : isSubtype (.type T) (.type "set") = pure false) (k2 : isSubtype (.type T) (.type "frozenset") = pure false) (k3 : (Value.type T == Value.type "dict") = false) (txt : PyProof.Rows.StrsAre vs.toList xs) (few : xs.length ≤ 1000)
    (fin : ∀ (h2 : Heap) (tk : Nat), Texts prog w h2 s.heap.objs.size xs → (∀ b o, b < s.heap.objs.size → s.heap.get? b = some o → h2.get? b = some o) → Q (.ref s.heap.objs.size) { s with heap := h2, toks := tk }) :
    wpAny (model prog w) A (call (.type "set") [.ref l]) Q E s := by
  obtain ⟨c, tl, m0⟩ := PySem.F.called_set.mro
  have m1 := PySem.F.called_set.made
  have m2 := PySem.F.called_set.sub
  refine wpAny_call (codeAny_of_tree (show wpAny _ _ (callAny (.type "set") _) _ _ _ from ?_))
  refine wpAny_pure ⟨Code.quiet_builtin _ (by decide +kernel), codeAny_builtin PySem.F.entry_type_call ?_⟩
  rw [Around.under_plain (weight_type_call_type "set" [.ref l] []) rfl]
  have m3 := PySem.F.called_set.notType
  have m4 := PySem.F.called_set.canCreate
  have m5 := PySem.F.typeCall_set_1 (.ref l)
  repeat (any_goals (first | assumption | wp_step))
  generalize eled : (!w.params.followText "set-order") = led
  refine codeAny_mono (code_set_led1 (.ref l) (E := E) (Q₁ := fun u s1 => u = .ref s.heap.objs.size ∧ s1 = { s with heap := s.heap.push (set0 led) }) ⟨rfl, by rw [← eled]⟩) fun r s1 hr => ?_
  cases r with
  | error e => exact hr
  | ok fl =>
    cases fl with
    | ret u =>
      obtain ⟨rfl, rfl⟩ := hr
      have g0 : (s.heap.push (set0 led)).get? s.heap.objs.size = some (set0 led) := Heap.get?_push_size _ rfl
      have ty : Shared.TypeIs { s with heap := s.heap.push (set0 led) } (.ref s.heap.objs.size) "set" := ⟨_, g0, rfl⟩
      have m6 := PySem.F.called_set.init.lookup
      have m7 := PySem.F.called_set.init.bind (.ref s.heap.objs.size)
      repeat (any_goals (first | assumption | wp_step))
      refine codeAny_mono (codeAny_call_builtin (R := wants (fun r s2 => r = .none ∧ ∃ h2 tk, s2 = { s with heap := h2, toks := tk } ∧ Texts prog w h2 s.heap.objs.size xs ∧
          ∀ b o, b < s.heap.objs.size → s.heap.get? b = some o → h2.get? b = some o) E) PySem.F.called_set.init.plain PySem.F.entry_set_init (check_set_init_1 ty ?_)) fun r2 s2 hr2 => ?_
      · obtain ⟨⟨oc, od, ot, os⟩, nl, ho, hc, hd⟩ := src
        simp only at hc hd
        subst hc hd
        have ho1 : (s.heap.push (set0 led)).get? l = some { cls := .type T, dict := od, data := .seq vs nl, slots := os } := Heap.get?_push_of_some _ ho
        have hs1 : Hs (s.heap.push (set0 led)) := B.keeps _ _ hs fun b o e => Heap.get?_push_of_some _ e
        unfold Builtin.«set.__init__» noKeywords Builtin.Frozenset.updateFrom
        generalize gi : pyIter = gI
        wp_walk
        subst gi
        refine B.iter _ _ _ _ _ _ hs1 (wpAny_bind (wpAny_runValue ?_))
        have lt : l < s.heap.objs.size := Heap.lt_size ho
        have nh3 : A.in1.in1.in1.handled = none := by simp [nh]
        have sz1 : (s.heap.push (set0 led)).objs.size = s.heap.objs.size + 1 := Heap.size_push ..
        have ne : l ≠ (s.heap.push (set0 led)).objs.size := fun z => Nat.lt_irrefl _ (Nat.lt_trans (Nat.lt_succ_self _) (show s.heap.objs.size + 1 < s.heap.objs.size from (sz1.symm.trans z.symm) ▸ lt))
        have off : s.heap.objs.size ∉ [(s.heap.push (set0 led)).objs.size, l] := fun z => by
          rcases List.mem_cons.mp z with z | z
          · rw [sz1] at z; exact absurd z (Nat.ne_of_lt (Nat.lt_succ_self _))
          · rw [List.mem_singleton] at z; exact Nat.lt_irrefl _ (z ▸ lt)
        have sz : xs.length = vs.size := by rw [← PyProof.Rows.StrsAre.len_eq txt, Array.length_toList]
        refine grow ((W _ nh3 _ ne).toS) s.heap.objs.size off xs sz (by omega) (fun i v hv => SS.strs_at txt i v (by rw [Array.getElem?_toList]; exact hv)) (vs.size - 0) 0 _ (by omega) (Nat.zero_le _)
          (st0 _ _ (Heap.get?_push_size _ B.free) (B.keeps _ _ hs1 fun b o e => Heap.get?_push_of_some _ e)) ?_ fun s3 mv zs => ?_
        · have g1 : ((s.heap.push (set0 led)).push itO).get? s.heap.objs.size = some (set0 led) := Heap.get?_push_of_some _ g0
          refine ⟨_, #[], 0, .fresh 0 0 led, g1, ⟨rfl, rfl, rfl⟩, rfl, ⟨fun e he => ?_, List.Perm.refl _, by unfold scanBound; decide, rfl, List.Pairwise.nil, ?_⟩⟩
          · exact absurd he (by simp)
          · cases hq : w.params.followText "set-order" with
            | true => exact .inl rfl
            | false => exact .inr (by rw [hq] at eled; exact eled.symm)
        · obtain ⟨h3, g3, d3, tk3, os3⟩ := s3
          have eg : g3 = s.gens := mv.gens
          have ed : d3 = s.drawn := mv.drawn
          have eo : os3 = s.os := mv.os
          subst eg ed eo
          show wpAny _ _ _ _ _ _
          refine wpAny_pure (show wpAny _ _ (ret Value.none) _ _ _ from wpAny_pure ⟨rfl, h3, tk3, rfl, zs, fun b o hb e => ?_⟩)
          refine mv.heap b o ?_ (Heap.get?_push_of_some _ (Heap.get?_push_of_some _ e))
          intro z
          rcases List.mem_cons.mp z with z | z
          · exact Nat.lt_irrefl _ (z ▸ hb)
          · rcases List.mem_cons.mp z with z | z
            · rw [sz1] at z; exact Nat.lt_irrefl _ (Nat.lt_trans (Nat.lt_succ_self _) (z ▸ hb))
            · exact absurd z (by simp)
      · cases r2 with
        | error e => exact hr2
        | ok fl2 =>
          cases fl2 with
          | ret r =>
            obtain ⟨rfl, h2, tk, rfl, zs, kp⟩ := hr2
            repeat (any_goals (first | assumption | wp_step))
            exact fin _ _ zs kp
          | _ => exact hr2.elim
    | _ => exact hr.elim
end
section
variable {X : Cx}
def rHow (K : PySem.W.Frag) : V → Hp → VK → Prop := fun x H Q => ∃ l, ∃ xs : List Str, x = .ref l ∧ (SqL K H l (xs.map V.str) ∨ SqT K H l (xs.map V.str)) ∧ xs.length ≤ 1000 ∧ Q (.int (unlike xs).length) H
theorem pe_how {a : Expr} {ta : TE} {p p2 q pos : Pos} (hc : X.calm = true) (g1 : Gl X "len") (m1 : X.mg "len" = none) (g2 : Gl X "set") (m2 : X.mg "set" = none) (ha : PE X a ta) (na : starEach [a] X.env = (false, eval a X.env) :: starEach [] X.env) :
    PE X (.Call (.Name "len" p) [.Call (.Name "set" p2) [a] [] q] [] pos) (tUn (rHow X.K) ta) := by
  refine ⟨fun pins s σ H Q I h => ?_⟩
  refine PyProof.Rows.Call_ (ld_blt I g1 m1 PySem.boot_len (PyProof.Rows.callWith_builtin1 (PyProof.Rows.args_cons ?_ rfl) rfl rfl))
  refine PyProof.Rows.Call_ (ld_blt I g2 m2 PyProof.Rows.boot_set (PyProof.Rows.callWith_type1 (PyProof.Rows.args_cons (thn (ha.run pins s σ H _ I h) fun v s1 ⟨x, H1, I1, r1, q1⟩ => PyProof.Rows.args_nil ?_) na) na rfl))
  obtain ⟨l, xs, rfl, sq, few, q1⟩ := q1
  cases r1
  have fin : ∀ (h2 : Heap) (tk : Nat), Texts X.prog X.w h2 s1.heap.objs.size xs → (∀ b o, b < s1.heap.objs.size → s1.heap.get? b = some o → h2.get? b = some o) → wpAny (model X.prog X.w) X.A (call (.builtin "len") [.ref s1.heap.objs.size]) (fun v s' => ∃ x H', Inv X pins σ H' s' ∧ RelV x v ∧ Q x H') X.xe { s1 with heap := h2, toks := tk } := fun h2 tk zs kp => by
    obtain ⟨o, es, ep, t, ho, hex, hd, TD⟩ := zs
    have hf := TD.fit
    have hn : es.size = (unlike xs).length := by
      have := TD.pm.length_eq
      simpa using this
    have I2 : Inv X pins σ H1 { s1 with heap := h2, toks := tk } := I1.kept fun b o e => kp b o (Heap.lt_size e) e
    have := unlike_len xs
    exact call_len_set ho hex hd hf (by rw [hn]; omega) ⟨.int (unlike xs).length, H1, I2.tok _, ⟨_, by rw [hn]⟩, q1⟩
  rcases sq with sq | sq
  · obtain ⟨its, r, pl, hz⟩ := I1.list sq
    refine set_texts (T := "list") (I1.ok.hd hc) (by obtain ⟨o, n, h1, h2, h3, h4⟩ := pl; exact ⟨o, n, h1, h2, h4⟩) pl.isList (begins_list l its.toArray) (fun A' hA I hI => Walks.list hA I l hI its.toArray) (fun I h e q => ⟨⟨_, e, rfl, rfl⟩, q⟩) PySem.F.sub_list_set PySem.F.sub_list_frozenset (by decide) (by simpa using strsAre_of r) few fun h2 tk zs kp => PyProof.Rows.args_nil (fin h2 tk zs kp)
  · obtain ⟨its, r, pl, hz⟩ := I1.tuple sq
    refine set_texts (T := "tuple") (I1.ok.hd hc) (by obtain ⟨o, h1, h2, n, h4⟩ := pl; exact ⟨o, n, h1, h2, h4⟩) pl (begins_tuple l its.toArray) (fun A' hA I hI => Walks.tuple hA I l hI its.toArray) (fun I h e q => ⟨⟨_, e, rfl, rfl⟩, q⟩) PySem.F.sub_tuple_set PySem.F.sub_tuple_frozenset (by decide) (by simpa using strsAre_of r) few fun h2 tk zs kp => PyProof.Rows.args_nil (fin h2 tk zs kp)
end
section
variable {K : PySem.W.Frag}
theorem lenSet_ok {ds : List D} {x : D} (h : lenSetL ds = .ok x) : ∃ xs, strsD ds = some xs ∧ xs.length ≤ 1000 ∧ x = .int (unlike xs).length := by
  unfold lenSetL at h
  cases hs : strsD ds with
  | none => rw [hs] at h; cases h
  | some xs =>
    rw [hs] at h
    have h2 : (if decide (xs.length ≤ 1000) = true then Res.ok (PyData.int (unlike xs).length) else .bad) = .ok x := h
    by_cases hl : xs.length ≤ 1000
    · rw [if_pos (decide_eq_true hl)] at h2; cases h2
      exact ⟨xs, rfl, hl, rfl⟩
    · rw [if_neg (by simpa using hl)] at h2; cases h2
theorem r_how : R1ok K lenSetD (rHow K) := by
  intro v H Ps d x b Q dom h1 hx q
  cases d with
  | list ds =>
    obtain ⟨a, vs, rfl, e1, r, z⟩ := h1.list
    obtain ⟨xs, hs, hl, rfl⟩ := lenSet_ok (show lenSetL ds = .ok x from hx)
    exact ⟨a, xs, rfl, .inl (SqL.of (by rw [← (strs_of r hs).1]; exact e1)), hl, q _ _ (Same.refl _) (.int _)⟩
  | tuple ds =>
    obtain ⟨a, vs, rfl, e1, r, z⟩ := h1.tuple
    obtain ⟨xs, hs, hl, rfl⟩ := lenSet_ok (show lenSetL ds = .ok x from hx)
    exact ⟨a, xs, rfl, .inr (by rw [← (strs_of r hs).1]; exact e1), hl, q _ _ (Same.refl _) (.int _)⟩
  | _ => cases hx
end
end Tq

/-! Tq, part T: sorted(set(texts)). -/
namespace Tq
open PySem L2 Res
/-! ### texts in order -/
theorem leT_iff (x y : Str) : leT x y = true ↔ x.cps.toList ≤ y.cps.toList := by
  unfold leT
  simp only [Bool.not_eq_true', decide_eq_false_iff_not]
  exact List.not_lt
theorem leT_trans {x y z : Str} (h : leT x y = true) (h' : leT y z = true) : leT x z = true := (leT_iff _ _).mpr (List.le_trans ((leT_iff _ _).mp h) ((leT_iff _ _).mp h'))
theorem leT_anti {x y : Str} (h : leT x y = true) (h' : leT y x = true) : x = y := by
  have e := List.le_antisymm ((leT_iff _ _).mp h) ((leT_iff _ _).mp h')
  obtain ⟨a⟩ := x
  obtain ⟨b⟩ := y
  have e : a.toList = b.toList := e
  rw [Array.toList_inj.mp e]
theorem leT_total (x y : Str) : leT x y = true ∨ leT y x = true := (List.le_total x.cps.toList y.cps.toList).imp (leT_iff _ _).mpr (leT_iff _ _).mpr
theorem insT_perm (x : Str) : ∀ l : List Str, (insT x l).Perm (x :: l)
  | [] => List.Perm.refl _
  | y :: r => by
    unfold insT
    split
    · exact List.Perm.refl _
    · exact ((insT_perm x r).cons y).trans (List.Perm.swap x y r)
theorem risT_perm : ∀ l : List Str, (risT l).Perm l
  | [] => List.Perm.refl _
  | x :: r => (insT_perm x (risT r)).trans ((risT_perm r).cons x)
theorem insT_sorted (x : Str) : ∀ l : List Str, l.Pairwise (fun a b => leT a b = true) → (insT x l).Pairwise (fun a b => leT a b = true)
  | [], _ => List.pairwise_singleton _ _
  | y :: r, h => by
    obtain ⟨h1, h2⟩ := List.pairwise_cons.mp h
    unfold insT
    split
    · rename_i q
      refine List.pairwise_cons.mpr ⟨fun z hz => ?_, h⟩
      rcases List.mem_cons.mp hz with e | hz
      · subst e; exact q
      · exact leT_trans q (h1 z hz)
    · rename_i q
      refine List.pairwise_cons.mpr ⟨fun z hz => ?_, insT_sorted x r h2⟩
      rcases List.mem_cons.mp ((insT_perm x r).mem_iff.mp hz) with e | hz
      · subst e; exact (leT_total y z).resolve_right q
      · exact h1 z hz
theorem risT_sorted : ∀ l : List Str, (risT l).Pairwise (fun a b => leT a b = true)
  | [] => List.Pairwise.nil
  | x :: r => insT_sorted x _ (risT_sorted r)
theorem rising_pair : ∀ (l : List Str) (p : Str), PyProof.Rows.risingS p l = true → (p :: l).Pairwise (fun a b => leT a b = true)
  | [], p, _ => List.pairwise_singleton _ _
  | x :: r, p, h => by
    have h : (!PySem.Spec.ltCps x.cps.toList p.cps.toList && PyProof.Rows.risingS x r) = true := h
    rw [PyProof.Rows.ltCps_eq, Bool.and_eq_true] at h
    have ih := rising_pair r x h.2
    have hp : leT p x = true := h.1
    refine List.pairwise_cons.mpr ⟨fun z hz => ?_, ih⟩
    rcases List.mem_cons.mp hz with e | hz
    · subst e; exact hp
    · exact leT_trans hp ((List.pairwise_cons.mp ih).1 z hz)
theorem risT_eq {ys ks : List Str} (hp : ys.Perm ks) (hs : PyProof.Rows.sortedS ys = true) : ys = risT ks := by
  have h : ys.Pairwise (fun a b => leT a b = true) := by
    cases ys with
    | nil => exact List.Pairwise.nil
    | cons y r => exact rising_pair r y hs
  exact List.Perm.eq_of_pairwise (fun a b _ _ h1 h2 => leT_anti h1 h2) h (risT_sorted ks) (hp.trans (risT_perm ks).symm)
section
variable {prog : Program} {w : World} {A : Around} {E : Value → Shared → Prop} {s : Shared}
open PyProof.Rows in
/-- sorted(s) of a set of texts -/
theorem sorted_tex {a : Addr} {ks : List Str} {Q : Value → Shared → Prop} (T : Tex prog w s.heap a ks) (nh : A.handled = none)
    (fin : ∀ s' p (out : Array Value) (c : Nat), (∀ b o, s.heap.get? b = some o → s'.heap.get? b = some o) → s'.gens = s.gens → s'.os = s.os → s.heap.objs.size ≤ p → s'.heap.get? p = some (seqObj "list" out c) → StrsAre out.toList (risT ks) → Q (.ref p) s') :
    wpAny (model prog w) A (call (.builtin "sorted") [.ref a]) Q E s := by
  obtain ⟨o, es, ep, t, ho, hex, hd, T⟩ := T
  refine Calls.call_function_entry kind_sorted plain_sorted entry_sorted (args_sorted1 _) ?_
  unfold Builtin.«sorted»
  refine wpAny_bind (m := checkCount "sorted" 1 1 _) (wpAny_pure ?_)
  refine wpAny_bind (collect_set (A := A.in1) nh ⟨o, ho, hex.1, hd⟩ T.fit T.few T.ris T.led fun s1 vs k1 hz g1 o1 pm => ?_)
  have allS : ∀ l : List Value, (∀ v ∈ l, ∃ e ∈ es.toList, v = e.2) → StrsAre l (l.map strOf) := fun l => by
    induction l with
    | nil => intro _; exact .nil
    | cons v l ih =>
      intro h
      obtain ⟨e, he, rfl⟩ := h v List.mem_cons_self
      obtain ⟨u, hu⟩ := txt_str (is_txt T.el he)
      have : strOf e.2 = txt e := rfl
      rw [List.map_cons, this]
      have i := ih fun x hx => h x (List.mem_cons_of_mem _ hx)
      rw [hu]
      exact .cons _ _ i
  have hS : StrsAre vs (vs.map strOf) := allS vs fun v hv => by
    obtain ⟨e, he, q⟩ := List.mem_map.mp (pm.mem_iff.mp hv)
    exact ⟨e, he, q.symm⟩
  have pk : (vs.map strOf).Perm ks := by
    have q := pm.map strOf
    rw [List.map_map] at q
    exact q.trans T.pm
  have lv : vs.length ≤ sizeLine := by
    have h1 : vs.length = es.size := by rw [pm.length_eq]; simp
    rw [h1]
    exact fits_of_scanBound T.few
  refine wpAny_bind (wpAny_newList ?_ lv)
  have oL : (s1.heap.push (seqObj "list" vs.toArray 0)).get? s1.heap.objs.size = some (seqObj "list" vs.toArray 0) := Heap.get?_push_size _ rfl
  refine wpAny_bind (wpAny_holding (wpAny_call_entry slot_list_sort ⟨_, oL, rfl⟩ entry_list_sort (list_sort_treeKAny strKind_oneLt oL hS.keysOf (fun v1 v2 rest e => keyKind_strs (by rw [← e]; exact hS)) lv fun st hp hs => ⟨_, rfl, ?_⟩) (args_list_sort _)))
  obtain ⟨ss, q1, q2, q3⟩ := sorted_out_str hS hp hs
  obtain ⟨c, hc⟩ := sortedHeap_at (vs := vs) (out := (arrOf st).map (·.2)) oL
  have er := risT_eq (q2.trans pk) q3
  rw [er] at q1
  refine wpAny_pure ⟨_, rfl, fin _ s1.heap.objs.size _ c (fun b u e => ?_) g1 o1 hz hc q1⟩
  have q := k1 b u e
  have lt := Heap.lt_size q
  show (sortedHeap (s1.heap.push (seqObj "list" vs.toArray 0)) s1.heap.objs.size vs _).get? b = some u
  rw [sortedHeap_old (Nat.ne_of_lt lt) (by rw [Heap.size_push]; exact Nat.lt_succ_of_lt lt)]
  exact Heap.get?_push_of_some _ q
end
section
variable {X : Cx}
def rRis (K : PySem.W.Frag) : V → Hp → VK → Prop := fun x H Q => ∃ l, ∃ xs : List Str, x = .ref l ∧ (SqL K H l (xs.map V.str) ∨ SqT K H l (xs.map V.str)) ∧ xs.length ≤ 1000 ∧ ∀ p, H p = none → Q (.ref p) (upd H p (.lst ((risT (unlike xs)).map V.str)))
theorem pe_ris {a : Expr} {ta : TE} {p p2 q pos : Pos} (hc : X.calm = true) (g1 : Gl X "sorted") (m1 : X.mg "sorted" = none) (g2 : Gl X "set") (m2 : X.mg "set" = none) (ha : PE X a ta) (na : starEach [a] X.env = (false, eval a X.env) :: starEach [] X.env) :
    PE X (.Call (.Name "sorted" p) [.Call (.Name "set" p2) [a] [] q] [] pos) (tUn (rRis X.K) ta) := by
  refine ⟨fun pins s σ H Q I h => ?_⟩
  refine PyProof.Rows.Call_ (ld_blt I g1 m1 (show bootBuiltins "sorted" = some (.builtin "sorted") by decide +kernel) (PyProof.Rows.callWith_builtin1 (PyProof.Rows.args_cons ?_ rfl) rfl rfl))
  refine PyProof.Rows.Call_ (ld_blt I g2 m2 PyProof.Rows.boot_set (PyProof.Rows.callWith_type1 (PyProof.Rows.args_cons (thn (ha.run pins s σ H _ I h) fun v s1 ⟨x, H1, I1, r1, q1⟩ => PyProof.Rows.args_nil ?_) na) na rfl))
  obtain ⟨l, xs, rfl, sq, few, q1⟩ := q1
  cases r1
  have fin : ∀ (h2 : Heap) (tk : Nat), Texts X.prog X.w h2 s1.heap.objs.size xs → (∀ b o, b < s1.heap.objs.size → s1.heap.get? b = some o → h2.get? b = some o) → wpAny (model X.prog X.w) X.A (call (.builtin "sorted") [.ref s1.heap.objs.size]) (fun v s' => ∃ x H', Inv X pins σ H' s' ∧ RelV x v ∧ Q x H') X.xe { s1 with heap := h2, toks := tk } := fun h2 tk zs kp => by
    have I2 : Inv X pins σ H1 { s1 with heap := h2, toks := tk } := I1.kept fun b o e => kp b o (Heap.lt_size e) e
    refine sorted_tex (s := { s1 with heap := h2, toks := tk }) zs (I2.ok.hd hc) fun s' p out c k g o hp hg hst => ?_
    have hl : ((risT (unlike xs)).map V.str).length ≤ sizeLine := by
      rw [List.length_map, (risT_perm _).length_eq, sizeLine_eq]
      have := unlike_len xs
      omega
    have hn : H1 p = none := I2.hok.fresh hp
    have J : Inv X pins σ (upd H1 p (.lst ((risT (unlike xs)).map V.str))) { ({ s1 with heap := h2, toks := tk } : Shared) with heap := s'.heap, gens := s'.gens, drawn := s'.drawn, toks := s'.toks } :=
      I2.call (ch := []) (Un.laid k hp hn) (I2.hok.laid k hp ⟨hl, out.toList, c, vals_of_strs hst, hg⟩) (by rw [g]; exact I2.bare) (fun _ z => nomatch z)
    have e : s' = { s1 with heap := s'.heap, gens := s'.gens, drawn := s'.drawn, toks := s'.toks } := by
      cases s'
      cases s1
      cases o
      rfl
    rw [e]
    exact ⟨.ref p, _, J, rfl, q1 p hn⟩
  rcases sq with sq | sq
  · obtain ⟨its, r, pl, hz⟩ := I1.list sq
    refine set_texts (T := "list") (I1.ok.hd hc) (by obtain ⟨o, n, h1, h2, h3, h4⟩ := pl; exact ⟨o, n, h1, h2, h4⟩) pl.isList (begins_list l its.toArray) (fun A' hA I hI => Walks.list hA I l hI its.toArray) (fun I h e q => ⟨⟨_, e, rfl, rfl⟩, q⟩) PySem.F.sub_list_set PySem.F.sub_list_frozenset (by decide) r.strs few fun h2 tk z k => PyProof.Rows.args_nil (fin h2 tk z k)
  · obtain ⟨its, r, pl, hz⟩ := I1.tuple sq
    refine set_texts (T := "tuple") (I1.ok.hd hc) (by obtain ⟨o, h1, h2, n, h4⟩ := pl; exact ⟨o, n, h1, h2, h4⟩) pl (begins_tuple l its.toArray) (fun A' hA I hI => Walks.tuple hA I l hI its.toArray) (fun I h e q => ⟨⟨_, e, rfl, rfl⟩, q⟩) PySem.F.sub_tuple_set PySem.F.sub_tuple_frozenset (by decide) r.strs few fun h2 tk z k => PyProof.Rows.args_nil (fin h2 tk z k)
end
section
variable {K : PySem.W.Frag}
theorem strOk_unlike {xs : List Str} (h : ∀ x ∈ xs, PyData.strOk x = true ∧ x.length ≤ sizeLine) : ∀ x ∈ unlike xs, PyData.strOk x = true ∧ x.length ≤ sizeLine := by
  have : ∀ (l acc : List Str), (∀ x ∈ acc, PyData.strOk x = true ∧ x.length ≤ sizeLine) → (∀ x ∈ l, PyData.strOk x = true ∧ x.length ≤ sizeLine) → ∀ x ∈ l.foldl addU acc, PyData.strOk x = true ∧ x.length ≤ sizeLine := fun l => by
    induction l with
    | nil => intro acc h1 _; exact h1
    | cons y l ih =>
      intro acc h1 h2
      refine ih _ (fun x hx => ?_) fun x hx => h2 x (List.mem_cons_of_mem _ hx)
      unfold addU at hx
      split at hx
      · exact h1 x hx
      · rcases List.mem_append.mp hx with hx | hx
        · exact h1 x hx
        · rw [List.mem_singleton] at hx; subst hx; exact h2 x List.mem_cons_self
  exact this xs [] (fun x hx => by simp at hx) h
theorem strs_len : ∀ {H : Hp} {vs : List V} {ds : List D} {xs : List Str}, RpAll K H vs ds → strsD ds = some xs → ∀ x ∈ xs, PyData.strOk x = true ∧ x.length ≤ sizeLine
  | _, _, _, _, .nil, e => by cases e; exact fun _ h => nomatch h
  | H, _, _, xs, .cons (d := d) (ds := ds) h r, e => by
    cases d with
    | str b =>
      have e' : (strsD ds).map (b :: ·) = some xs := e
      cases q : strsD ds with
      | none => rw [q] at e'; cases e'
      | some cs =>
        rw [q] at e'; cases e'
        cases h with
        | str h1 h2 => exact fun x hx => (List.mem_cons.mp hx).elim (fun z => z ▸ ⟨h2, h1⟩) (strs_len r q x)
    | _ => cases e
theorem rpAll_strs {H : Hp} : ∀ {xs : List Str}, (∀ x ∈ xs, PyData.strOk x = true ∧ x.length ≤ sizeLine) → RpAll K H (xs.map V.str) (xs.map PyData.str)
  | [], _ => .nil
  | x :: xs, h => .cons (.str (h x List.mem_cons_self).2 (h x List.mem_cons_self).1) (rpAll_strs fun y hy => h y (List.mem_cons_of_mem _ hy))
theorem new_ris {H : Hp} {Ps : List Addr} {xs : List Str} {p : Addr} (dom : ∀ q ∈ Ps, H q ≠ none) (hx : ∀ x ∈ xs, PyData.strOk x = true ∧ x.length ≤ sizeLine) (hl : xs.length ≤ sizeLine) (hp : H p = none) : Rp K (hide (upd H p (.lst ((risT xs).map V.str))) Ps) (.ref p) (.list ((risT xs).map PyData.str)) :=
  new_lst dom hp (rpAll_strs fun x h => hx x ((risT_perm xs).mem_iff.mp h)) (by rw [List.length_map, (risT_perm xs).length_eq]; exact hl)
theorem sortSet_ok {ds : List D} {x : D} (h : sortSetL ds = .ok x) : ∃ xs, strsD ds = some xs ∧ xs.length ≤ 1000 ∧ x = .list ((risT (unlike xs)).map PyData.str) := by
  unfold sortSetL at h
  cases hs : strsD ds with
  | none => rw [hs] at h; cases h
  | some xs =>
    rw [hs] at h
    have h2 : (if decide (xs.length ≤ 1000 ∧ (unlike xs).length < 64) = true then Res.ok (PyData.list ((risT (unlike xs)).map PyData.str)) else .bad) = .ok x := h
    split at h2
    · rename_i hl
      cases h2
      exact ⟨xs, rfl, (of_decide_eq_true hl).1, rfl⟩
    · cases h2
theorem r_ris : R1ok K sortSetD (rRis K) := by
  intro v H Ps d x b Q dom h1 hx q
  have fin : ∀ {vs : List V} {ds : List D} {xs : List Str}, RpAll K (hide H Ps) vs ds → strsD ds = some xs → xs.length ≤ 1000 → x = .list ((risT (unlike xs)).map PyData.str) → ∀ p, H p = none → Q (.ref p) (upd H p (.lst ((risT (unlike xs)).map V.str))) := fun r hs hl e p hp => by
    subst e
    refine q _ _ (same_upd hp) (new_ris dom (strOk_unlike (strs_len r hs)) ?_ hp)
    exact Nat.le_trans (unlike_len _) (by rw [sizeLine_eq]; omega)
  cases d with
  | list ds =>
    obtain ⟨a, vs, rfl, e1, r, z⟩ := h1.list
    obtain ⟨xs, hs, hl, e⟩ := sortSet_ok (show sortSetL ds = .ok x from hx)
    exact ⟨a, xs, rfl, .inl (SqL.of (by rw [← (strs_of r hs).1]; exact e1)), hl, fin r hs hl e⟩
  | tuple ds =>
    obtain ⟨a, vs, rfl, e1, r, z⟩ := h1.tuple
    obtain ⟨xs, hs, hl, e⟩ := sortSet_ok (show sortSetL ds = .ok x from hx)
    exact ⟨a, xs, rfl, .inr (by rw [← (strs_of r hs).1]; exact e1), hl, fin r hs hl e⟩
  | _ => cases hx
/-- sorted(l) of a list of texts -/
def rSrt (K : PySem.W.Frag) : V → Hp → VK → Prop := fun x H Q => ∃ l, ∃ xs : List Str, x = .ref l ∧ SqL K H l (xs.map V.str) ∧ xs.length < 64 ∧ ∀ p, H p = none → Q (.ref p) (upd H p (.lst ((risT xs).map V.str)))
theorem cr_srt {X : Cx} : CallR X (.builtin "sorted") (fun vs H Q => ∃ v, vs = [v] ∧ rSrt X.K v H Q) := by
  intro pins s σ H vs us Q I r h
  obtain ⟨v, rfl, l, xs, rfl, sq, few, q⟩ := h
  refine cr_sortedS pins s σ H _ us Q I r ⟨l, xs, rfl, sq, few, fun ys p pm so hp => ?_⟩
  rw [risT_eq pm so]
  exact q p hp
end
end Tq

/-! Tq, part 4: sorted of pairs whose first parts are unlike texts; sorted of a dict with texts as keys. -/
namespace Tq
open PySem L2 Res
def IsNP (h : Heap) (v : Value) (x : Str) : Prop := ∃ a t u, v = .ref a ∧ PyProof.Rows.IsTup h a #[Value.str x t, Value.ref u]
def ltN (nm : Value → Str) (v u : Value) : Bool := decide ((nm v).cps.toList < (nm u).cps.toList)
theorem ltN_swo (nm : Value → Str) : SrtO.Swo (ltN nm) where
  asym := fun x y h => by
    unfold ltN at h ⊢
    have := of_decide_eq_true h
    exact decide_eq_false fun z => List.lt_asymm this z
  tr := fun x y z h1 h2 => by
    unfold ltN at h1 h2 ⊢
    have h1 := of_decide_eq_false h1
    have h2 := of_decide_eq_false h2
    refine decide_eq_false ?_
    rw [List.not_lt] at h1 h2 ⊢
    exact List.le_trans h1 h2
section
variable {P : Program} {w : World} {A : Around} {s : Shared}
theorem np_tups {h : Heap} {nm : Value → Str} : ∀ (vs : List Value), (∀ v ∈ vs, IsNP h v (nm v)) → ∃ fs, PySem.W.KatTups h vs fs ∧ fs.length = vs.length ∧ ∀ f ∈ fs, ∃ x t, f = Value.str x t
  | [], _ => ⟨[], .nil, rfl, fun f hf => by simp at hf⟩
  | v :: vs, hv => by
    obtain ⟨fs, h1, h2, h3⟩ := np_tups vs fun u hu => hv u (List.mem_cons_of_mem _ hu)
    obtain ⟨a, t, u, rfl, o, e1, e2, n, e3⟩ := hv v (by simp)
    exact ⟨_ :: fs, .cons e1 e2 e3 rfl h1, by simp [h2], fun f hf => by
      rcases List.mem_cons.mp hf with rfl | hf
      · exact ⟨_, _, rfl⟩
      · exact h3 f hf⟩
theorem np_sortable {a : Addr} {vs : List Value} {nm : Value → Str} (h0 : 0 < vs.length) (hp : ∀ v ∈ vs, IsNP s.heap v (nm v)) (inj : ∀ v ∈ vs, ∀ u ∈ vs, nm v = nm u → v = u) (hna : ∀ o, s.heap.get? a = some o → o.cls ≠ Value.type "tuple") : SrtO.SortableO P w A s a vs (ltN nm) := by
  intro h' hk
  have hp' : ∀ v ∈ vs, IsNP h' v (nm v) := fun v hv => by
    obtain ⟨b, t, u, rfl, o, e1, e2, e3⟩ := hp v hv
    exact ⟨b, t, u, rfl, o, hk b o (fun z => hna o (z ▸ e1) e2) e1, e2, e3⟩
  refine ⟨PyProof.Rows.tuples' true, fun Q E q => ?_, fun p q mp mq => ?_⟩
  · obtain ⟨fs, h1, h2, h3⟩ := np_tups vs hp'
    refine PySem.W.kat_kind (T := Value.type "str") h1 (by omega) (fun v hv => ?_) (by decide +kernel) q
    obtain ⟨x, t, rfl⟩ := h3 v hv
    exact fun A Q E s _ q => wpAny_pure q
  · obtain ⟨b, t, u, e1, o, g1, g2, n, g3⟩ := hp' p.1 mp
    obtain ⟨c, t', u', e2, o', k1, k2, n', k3⟩ := hp' q.1 mq
    rw [e1, e2]
    refine PySem.W.kat_lt g1 g3 k1 k3 ?_
    refine PySem.W.kat_cons (PySem.wpAny_eqBool_str ?_)
    by_cases hn : nm p.1 = nm q.1
    · have hpq := inj _ mp _ mq hn
      rw [decide_eq_true hn]
      have hbc : b = c := by
        rw [e1, e2] at hpq
        injection hpq
      subst hbc
      have ho : o = o' := by
        rw [g1] at k1
        injection k1
      subst ho
      have hi : (#[Value.str (nm p.1) t, Value.ref u] : Array Value) = #[Value.str (nm q.1) t', Value.ref u'] := by
        rw [g3] at k3
        injection k3
      have hu : u = u' := by
        have := congrArg (fun x : Array Value => x[1]?) hi
        simpa using this
      subst hu
      show PySem.W.KatLex P w A true _ _ [(Value.ref u, Value.ref u)] 1 _
      refine PySem.W.kat_cons ?_
      unfold eqBool
      refine wpAny_holding ?_
      have bb : (Value.ref u == Value.ref u) = true := by simp
      rw [if_pos bb]
      refine wpAny_bind (wpAny_rule (wpAny_pure ?_))
      unfold PySem.W.KatGo
      rw [if_pos rfl]
      unfold PySem.W.KatLex
      refine ⟨rfl, ?_⟩
      show false = ltN nm p.1 q.1
      unfold ltN
      rw [hn]
      exact (decide_eq_false (List.lt_irrefl _)).symm
    · rw [decide_eq_false hn]
      refine PySem.W.kat_no ?_
      refine PyProof.Rows.oneLt_str ⟨rfl, ?_⟩
      show decide _ = ltN nm p.1 q.1
      rfl
end
/-! ### sorted of such a list -/
theorem insB_perm {β : Type} (e : Str × β) : ∀ l : List (Str × β), (insB e l).Perm (e :: l)
  | [] => List.Perm.refl _
  | f :: r => by
    unfold insB
    split
    · exact List.Perm.refl _
    · exact ((insB_perm e r).cons f).trans (List.Perm.swap e f r)
theorem risB_perm {β : Type} : ∀ l : List (Str × β), (risB l).Perm l
  | [] => List.Perm.refl _
  | e :: r => (insB_perm e (risB r)).trans ((risB_perm r).cons e)
theorem insB_sorted {β : Type} (e : Str × β) : ∀ l : List (Str × β), l.Pairwise (fun a b => leT a.1 b.1 = true) → (insB e l).Pairwise (fun a b => leT a.1 b.1 = true)
  | [], _ => List.pairwise_singleton _ _
  | f :: r, h => by
    obtain ⟨h1, h2⟩ := List.pairwise_cons.mp h
    unfold insB
    split
    · rename_i q
      refine List.pairwise_cons.mpr ⟨fun z hz => ?_, h⟩
      rcases List.mem_cons.mp hz with e | hz
      · subst e; exact q
      · exact leT_trans q (h1 z hz)
    · rename_i q
      refine List.pairwise_cons.mpr ⟨fun z hz => ?_, insB_sorted e r h2⟩
      rcases List.mem_cons.mp ((insB_perm e r).mem_iff.mp hz) with e | hz
      · subst e; exact (leT_total f.1 z.1).resolve_right q
      · exact h1 z hz
theorem risB_sorted {β : Type} : ∀ l : List (Str × β), (risB l).Pairwise (fun a b => leT a.1 b.1 = true)
  | [] => List.Pairwise.nil
  | e :: r => insB_sorted e _ (risB_sorted r)
theorem vals_refs4 : ∀ {Ts : List Addr}, Vals (Ts.map V.ref) (Ts.map Value.ref)
  | [] => .nil
  | _ :: _ => .cons rfl vals_refs4
/-- es: the names and the places of the pairs -/
def rSrtP (K : PySem.W.Frag) : V → Hp → VK → Prop := fun x H Q => ∃ (l : Addr) (es : List (Str × Addr)), x = .ref l ∧ SqL K H l (es.map fun e => V.ref e.2) ∧ (∀ e ∈ es, ∃ b, SqT K H e.2 [V.str e.1, V.ref b]) ∧ (es.map (·.1)).Nodup ∧ es.length ≤ 1000 ∧ ∀ p, H p = none → Q (.ref p) (upd H p (.lst ((risB es).map fun e => V.ref e.2)))
theorem nodup_same {es : List (Str × Addr)} (h : (es.map (·.1)).Nodup) : ∀ {a b : Str × Addr}, a ∈ es → b ∈ es → a.1 = b.1 → a = b := by
  induction es with
  | nil => intro a b ha; simp at ha
  | cons e r ih =>
    intro a b ha hb q
    rw [List.map_cons, List.nodup_cons] at h
    rcases List.mem_cons.mp ha with e1 | h1 <;> rcases List.mem_cons.mp hb with e2 | h2
    · rw [e1, e2]
    · exact absurd (by rw [← e1, q]; exact List.mem_map_of_mem (f := (·.1)) h2) h.1
    · exact absurd (by rw [← e2, ← q]; exact List.mem_map_of_mem (f := (·.1)) h1) h.1
    · exact ih h.2 h1 h2 q
theorem nm_of : ∀ {es : List (Str × Addr)}, (es.map (·.2)).Nodup → ∀ e ∈ es, ((es.find? fun x => x.2 == e.2).map (·.1)).getD Str.empty = e.1
  | [], _, e, he => by simp at he
  | f :: r, h, e, he => by
    rw [List.map_cons, List.nodup_cons] at h
    rcases List.mem_cons.mp he with rfl | he
    · simp
    · have : (f.2 == e.2) = false := by
        refine beq_eq_false_iff_ne.mpr fun q => h.1 ?_
        rw [q]
        exact List.mem_map_of_mem (f := (·.2)) he
      rw [List.find?_cons, this]
      exact nm_of h.2 e he
theorem np_apart {R : Addr → Str → Prop} (h : ∀ a x y, R a x → R a y → x = y) : ∀ {es : List (Str × Addr)}, (∀ e ∈ es, R e.2 e.1) → (es.map (·.1)).Nodup → (es.map (·.2)).Nodup
  | [], _, _ => List.nodup_nil
  | e :: r, hr, n => by
    rw [List.map_cons, List.nodup_cons] at n ⊢
    refine ⟨fun z => ?_, np_apart h (fun f hf => hr f (List.mem_cons_of_mem _ hf)) n.2⟩
    obtain ⟨f, hf, ef⟩ := List.mem_map.mp z
    refine n.1 ?_
    have := h e.2 e.1 f.1 (hr e List.mem_cons_self) (by rw [← ef]; exact hr f (List.mem_cons_of_mem _ hf))
    rw [this]
    exact List.mem_map_of_mem (f := (·.1)) hf
theorem cr_srtP {X : Cx} : CallR X (.builtin "sorted") (fun vs H Q => ∃ v, vs = [v] ∧ rSrtP X.K v H Q) := by
  intro pins s σ H vs us Q I r h
  obtain ⟨v, rfl, l, es, rfl, sq, ht, nd, hl, q⟩ := h
  cases r with
  | cons r1 r2 =>
    cases r1
    cases r2
    obtain ⟨its, rv, pl, hz⟩ := I.list sq
    have ei : its = es.map fun e => Value.ref e.2 := by
      clear hz pl sq
      have e := refs_at (ps := es.map (·.2)) (by rw [List.map_map]; exact rv)
      rw [e, List.map_map]; rfl
    subst ei
    have nda : (es.map (·.2)).Nodup := np_apart (R := fun a x => ∃ t u, PyProof.Rows.IsTup s.heap a #[Value.str x t, Value.ref u]) (fun a x y ⟨t, u, o, e1, e2, n, e3⟩ ⟨t', u', o', k1, k2, n', k3⟩ => by
      rw [e1] at k1
      cases k1
      rw [e3] at k3
      injection k3 with k3
      have := congrArg (fun x : Array Value => x[0]?) k3
      simp at this
      exact this.1) (fun e he => by
      obtain ⟨b, hb⟩ := ht e he
      obtain ⟨its', rv', pl', _⟩ := I.tuple hb
      cases rv' with
      | cons a1 a2 =>
        obtain ⟨t, rfl⟩ := a1
        cases a2 with
        | cons b1 b2 =>
          cases b1
          cases b2
          exact ⟨t, b, pl'⟩) nd
    let nm : Value → Str := fun v => match v with | .ref a => ((es.find? fun e => e.2 == a).map (·.1)).getD Str.empty | _ => Str.empty
    have hnm : ∀ e ∈ es, nm (Value.ref e.2) = e.1 := fun e he => nm_of nda e he
    have inj : ∀ v ∈ es.map (fun e => Value.ref e.2), ∀ u ∈ es.map (fun e => Value.ref e.2), nm v = nm u → v = u := fun v hv u hu e => by
      obtain ⟨e1, h1, rfl⟩ := List.mem_map.mp hv
      obtain ⟨e2, h2, rfl⟩ := List.mem_map.mp hu
      rw [hnm e1 h1, hnm e2 h2] at e
      rw [nodup_same nd h1 h2 e]
    have hp : ∀ v ∈ es.map (fun e => Value.ref e.2), IsNP s.heap v (nm v) := fun v hv => by
      obtain ⟨e, he, rfl⟩ := List.mem_map.mp hv
      obtain ⟨b, hb⟩ := ht e he
      obtain ⟨its', rv', pl', _⟩ := I.tuple hb
      rw [hnm e he]
      cases rv' with
      | cons a1 a2 =>
        obtain ⟨t, rfl⟩ := a1
        cases a2 with
        | cons b1 b2 =>
          cases b1
          cases b2
          exact ⟨e.2, t, b, rfl, pl'⟩
    refine SrtO.sorted_ord (ltN_swo nm) pl.isList (by rw [List.length_map, sizeLine_eq]; omega) (fun h2 h₁ a ha kp => ?_) fun out so st => ?_
    · refine np_sortable (by omega) (fun v hv => ?_) inj (fun o ho => ?_)
      · obtain ⟨b, t, u, rfl, o, e1, e2⟩ := hp v hv
        exact ⟨b, t, u, rfl, o, (kp b o e1).2, e2⟩
      · rw [ha] at ho
        injection ho with ho
        subst ho
        exact fun z => by
          have : (Value.type "list" : Value) = Value.type "tuple" := z
          injection this with this
          exact absurd this (by decide)
    · have eo : out = (risB es).map fun e => Value.ref e.2 := by
        refine List.Perm.eq_of_pairwise (le := fun a b => leT (nm a) (nm b) = true) (fun a b ha hb h1 h2 => ?_) ?_ ?_ (st.perm.trans ((risB_perm es).map _).symm)
        · exact inj a (st.perm.mem_iff.mp ha) b (((risB_perm es).map _).mem_iff.mp hb) (leT_anti h1 h2)
        · refine List.Pairwise.imp (fun {a b} h => ?_) so
          show (!decide ((nm b).cps.toList < (nm a).cps.toList)) = true
          have h : decide ((nm b).cps.toList < (nm a).cps.toList) = false := h
          rw [h]; rfl
        · rw [List.pairwise_map]
          refine List.Pairwise.imp_of_mem (fun {a b} ha hb h => ?_) (risB_sorted es)
          rw [hnm a ((risB_perm es).mem_iff.mp ha), hnm b ((risB_perm es).mem_iff.mp hb)]
          exact h
      subst eo
      obtain ⟨c, hc⟩ := PyProof.Rows.sortedAll_at s.heap (es.map fun e => Value.ref e.2) ((risB es).map fun e => Value.ref e.2).toArray
      refine ⟨.ref _, _, I.laid (t' := s.toks) (o := .lst ((risB es).map fun e => V.ref e.2)) (fun b u e => PyProof.Rows.sortedAll_old e) (Nat.le_succ _) ⟨?_, _, c, ?_, hc⟩, rfl, q _ (I.hok.fresh (Nat.le_succ _))⟩
      · rw [List.length_map, (risB_perm es).length_eq, sizeLine_eq]; omega
      · have := vals_refs4 (Ts := (risB es).map (·.2))
        rw [List.map_map, List.map_map] at this
        exact this
inductive Prd {α β : Type} (F : α → β → Prop) : List α → List β → Prop
  | nil : Prd F [] []
  | cons {a : α} {b : β} {l : List α} {m : List β} : F a b → Prd F l m → Prd F (a :: l) (b :: m)
theorem prd_ins {α β : Type} {F : Str × α → Str × β → Prop} (hF : ∀ a b, F a b → a.1 = b.1) {a : Str × α} {b : Str × β} (h : F a b) : ∀ {l m}, Prd F l m → Prd F (insB a l) (insB b m)
  | _, _, .nil => .cons h .nil
  | _, _, .cons (a := c) (b := d) h1 r => by
    unfold insB
    rw [hF a b h, hF c d h1]
    split
    · exact .cons h (.cons h1 r)
    · exact .cons h1 (prd_ins hF h r)
theorem prd_ris {α β : Type} {F : Str × α → Str × β → Prop} (hF : ∀ a b, F a b → a.1 = b.1) : ∀ {l m}, Prd F l m → Prd F (risB l) (risB m)
  | _, _, .nil => .nil
  | _, _, .cons h r => prd_ins hF h (prd_ris hF r)
section
variable {K : PySem.W.Frag} {H : Hp}
theorem prd_rp : ∀ {as : List (Str × Addr)} {es : List (Str × D)}, Prd (fun a e => a.1 = e.1 ∧ Rp K H (.ref a.2) (npD e)) as es → RpAll K H (as.map fun a => V.ref a.2) (es.map npD)
  | _, _, .nil => .nil
  | _, _, .cons h r => .cons h.2 (prd_rp r)
theorem prd_len {α β : Type} {F : α → β → Prop} : ∀ {l m}, Prd F l m → l.length = m.length
  | _, _, .nil => rfl
  | _, _, .cons _ r => by rw [List.length_cons, List.length_cons, prd_len r]
theorem prd_names {F : Str × Addr → Str × D → Prop} (hF : ∀ a b, F a b → a.1 = b.1) : ∀ {l m}, Prd F l m → l.map (·.1) = m.map (·.1)
  | _, _, .nil => rfl
  | _, _, .cons h r => by rw [List.map_cons, List.map_cons, prd_names hF r, hF _ _ h]
theorem pairs_prd : ∀ {xs : List V} {ds : List D} {es : List (Str × D)}, RpAll K H xs ds → kvOf ds = some es → es.all (fun e => isTup e.2) = true → ∃ as : List (Str × Addr), xs = as.map (fun a => V.ref a.2) ∧ Prd (fun a e => a.1 = e.1 ∧ Rp K H (.ref a.2) (npD e)) as es ∧ ∀ a ∈ as, ∃ b, SqT K H a.2 [V.str a.1, V.ref b]
  | _, _, es, .nil, h, _ => by
    cases h
    exact ⟨[], rfl, .nil, fun a ha => by simp at ha⟩
  | _, _, es, .cons (v := v) (vs := vs) (d := d) (ds := ds) h r, hk, ha => by
    cases d with
    | tuple ts =>
      match ts, hk with
      | [.str k, e], hk =>
        have hk : (kvOf ds).map ((k, e) :: ·) = some es := hk
        cases q : kvOf ds with
        | none => rw [q] at hk; cases hk
        | some es' =>
          rw [q] at hk
          cases hk
          rw [List.all_cons, Bool.and_eq_true] at ha
          obtain ⟨as, h1, h2, h3⟩ := pairs_prd r q ha.2
          have h0 := h
          cases h with
          | tup ht rr z =>
            rename_i p _
            cases rr with
            | cons ra rr =>
              cases rr with
              | cons rb rr =>
                cases rr
                cases ra with
                | str z1 z2 =>
                  cases e with
                  | tuple es0 =>
                    cases rb
                    exact ⟨(k, p) :: as, by rw [h1]; rfl, .cons ⟨rfl, h0⟩ h2, fun a hm => by
                      rcases List.mem_cons.mp hm with rfl | hm
                      · exact ⟨_, ht.sq⟩
                      · exact h3 a hm⟩
                  | _ => cases ha.1
      | [], hk => cases hk
      | [a], hk => cases a <;> cases hk
      | [.none, _], hk => cases hk
      | [.bool _, _], hk => cases hk
      | [.int _, _], hk => cases hk
      | [.list _, _], hk => cases hk
      | [.tuple _, _], hk => cases hk
      | [.dict _, _], hk => cases hk
      | a :: b :: c :: r, hk => cases a <;> cases hk
    | _ => cases hk
end
section
variable {X : Cx} {K : PySem.W.Frag}
def rSrtD : V → Hp → VK → Prop := fun x H Q => ∃ a kvs ks, x = V.ref a ∧ Rd H a (HO.dK kvs) ∧ List.map (fun x => x.fst) kvs = List.map Sum.inr ks ∧ ks.length < 64 ∧ ∀ p, H p = none → Q (.ref p) (upd H p (.lst ((risT ks).map V.str)))
def rSrt3 (K : PySem.W.Frag) : V → Hp → VK → Prop := fun v H Q => rSrt K v H Q ∨ rSrtP K v H Q ∨ rSrtD v H Q
theorem cr_srt3 (hc : X.calm = true) : CallR X (.builtin "sorted") (fun vs H Q => ∃ v, vs = [v] ∧ rSrt3 X.K v H Q) := by
  intro pins s σ H vs us Q I r h
  obtain ⟨v, rfl, h | h | ⟨a, kvs, ks, rfl, h1, h2, h3, h4⟩⟩ := h
  · exact cr_srt pins s σ H _ us Q I r ⟨v, rfl, h⟩
  · exact cr_srtP pins s σ H _ us Q I r ⟨v, rfl, h⟩
  · refine call_sortedD hc pins s σ H _ us Q I r ⟨a, kvs, ks, rfl, h1, h2, h3, fun ys p pm so hp => ?_⟩
    rw [risT_eq pm so]
    exact h4 p hp
theorem kv_keys : ∀ {H : Hp} {ks : List (Key × V)} {kvs : List (D × D)} {xs : List Str}, RpKV K H ks kvs → strsD (kvs.map (·.1)) = some xs → ks.map (·.1) = xs.map Sum.inr ∧ ∀ x ∈ xs, PyData.strOk x = true ∧ x.length ≤ sizeLine
  | _, _, _, xs, .nil, h => by
    cases h
    exact ⟨rfl, fun x hx => by simp at hx⟩
  | _, _, _, xs, .cons (x := x) (ds := ds) h1 h2 _ r, h => by
    have h : (strsD (ds.map (·.1))).map (x :: ·) = some xs := h
    cases q : strsD (ds.map (·.1)) with
    | none => rw [q] at h; cases h
    | some ys =>
      rw [q] at h; cases h
      obtain ⟨i1, i2⟩ := kv_keys r q
      exact ⟨by rw [List.map_cons, List.map_cons, i1], fun z hz => by
        rcases List.mem_cons.mp hz with rfl | hz
        · exact ⟨h2, h1⟩
        · exact i2 z hz⟩
theorem keyed_strs : ∀ {kvs : List (D × D)} {xs : List Str}, strsD (kvs.map (·.1)) = some xs → isKeyed kvs = true
  | [], _, _ => rfl
  | (.str x, d) :: r, xs, h => by
    have h : (strsD (r.map (·.1))).map (x :: ·) = some xs := h
    cases q : strsD (r.map (·.1)) with
    | none => rw [q] at h; cases h
    | some ys =>
      have := keyed_strs q
      unfold isKeyed at this ⊢
      show ((keysD r).map (PyData.str x :: ·)).isSome = true
      rw [Option.isSome_map]; exact this
  | (.none, d) :: r, xs, h => by cases h
  | (.bool _, d) :: r, xs, h => by cases h
  | (.int _, d) :: r, xs, h => by cases h
  | (.list _, d) :: r, xs, h => by cases h
  | (.tuple _, d) :: r, xs, h => by cases h
  | (.dict _, d) :: r, xs, h => by cases h
theorem sortTexts_ok {xs : List Str} {x : D} (h : sortTexts xs = .ok x) : xs.length < 64 ∧ x = .list ((risT xs).map PyData.str) := by
  unfold sortTexts at h
  split at h
  · rename_i hl
    cases h
    exact ⟨of_decide_eq_true hl, rfl⟩
  · cases h
theorem sortPairs_ok {ds : List D} {x : D} (h : sortPairs ds = .ok x) : ∃ es, kvOf ds = some es ∧ es.length ≤ 1000 ∧ (es.map (·.1)).Nodup ∧ es.all (fun e => isTup e.2) = true ∧ x = .list ((risB es).map npD) := by
  unfold sortPairs at h
  cases q : kvOf ds with
  | none => rw [q] at h; cases h
  | some es =>
    rw [q] at h
    have h : (if (decide (es.length ≤ 1000 ∧ (es.map (·.1)).Nodup) && es.all (fun e => isTup e.2)) = true then Res.ok (.list ((risB es).map npD)) else .bad) = .ok x := h
    split at h
    · rename_i hl
      cases h
      rw [Bool.and_eq_true] at hl
      have h1 := of_decide_eq_true hl.1
      exact ⟨es, rfl, h1.1, h1.2, hl.2, rfl⟩
    · cases h
theorem r_srt : R1ok K sortedD (fun v H Q => ∃ u, [v] = [u] ∧ rSrt3 K u H Q) := by
  intro v H Ps d x b Q dom h1 hx q
  cases d with
  | list ds =>
    obtain ⟨a, vs, rfl, e1, r, z⟩ := h1.list
    have hx : (match strsD ds with | some xs => sortTexts xs | none => sortPairs ds) = .ok x := hx
    cases hs : strsD ds with
    | none =>
      rw [hs] at hx
      obtain ⟨es, h1, h2, h3, h4, rfl⟩ := sortPairs_ok hx
      obtain ⟨as, rfl, pr, ht⟩ := pairs_prd r h1 h4
      have hF : ∀ (a : Str × Addr) (e : Str × D), a.1 = e.1 ∧ Rp K (hide H Ps) (.ref a.2) (npD e) → a.1 = e.1 := fun _ _ h => h.1
      have hl := prd_len pr
      have ht' : ∀ a ∈ as, ∃ b, SqT K H a.2 [V.str a.1, V.ref b] := fun a ha => by
        obtain ⟨b, hb⟩ := ht a ha
        exact ⟨b, seqT (hide_le _ _) hb⟩
      have hn : (as.map (·.1)).Nodup := by rw [prd_names hF pr]; exact h3
      refine ⟨_, rfl, .inr (.inl ⟨a, as, rfl, SqL.of e1, ht', hn, by omega, fun p hp => q _ _ (same_upd hp) (new_lst dom hp (prd_rp (prd_ris hF pr)) ?_)⟩)⟩
      rw [List.length_map, (risB_perm es).length_eq, sizeLine_eq]
      omega
    | some xs =>
      rw [hs] at hx
      obtain ⟨hl, rfl⟩ := sortTexts_ok hx
      exact ⟨_, rfl, .inl ⟨a, xs, rfl, SqL.of (by rw [← (strs_of r hs).1]; exact e1), hl, fun p hp => q _ _ (same_upd hp) (new_ris dom (strs_len r hs) (by rw [sizeLine_eq]; omega) hp)⟩⟩
  | dict kvs =>
    have hx : (match strsD (kvs.map (·.1)) with | some xs => sortTexts xs | none => .bad) = .ok x := hx
    cases hs : strsD (kvs.map (·.1)) with
    | none => rw [hs] at hx; cases hx
    | some xs =>
      rw [hs] at hx
      obtain ⟨hl, rfl⟩ := sortTexts_ok hx
      obtain ⟨a, ks, rfl, e1, r, z⟩ := h1.dct (keyed_strs hs)
      obtain ⟨i1, i2⟩ := kv_keys r hs
      exact ⟨_, rfl, .inr (.inr ⟨a, ks, xs, rfl, e1, i1, hl, fun p hp => q _ _ (same_upd hp) (new_ris dom i2 (by rw [sizeLine_eq]; omega) hp)⟩)⟩
  | _ => cases hx
end
end Tq

/-! Tq, part Y: dict(pairs) of lists and tuples. -/
namespace Tq
open PySem L2 Res
theorem pick_list {α β : Type} : ∀ (l : List α) (R : Nat → α → β → Prop), (∀ j a, l[j]? = some a → ∃ b, R j a b) → ∃ bs : List β, bs.length = l.length ∧ ∀ j a b, l[j]? = some a → bs[j]? = some b → R j a b
  | [], R, _ => ⟨[], rfl, fun j a b h _ => by simp at h⟩
  | x :: l, R, h => by
    obtain ⟨b, hb⟩ := h 0 x rfl
    obtain ⟨bs, h1, h2⟩ := pick_list l (fun j => R (j + 1)) fun j a ha => h (j + 1) a (by simpa using ha)
    refine ⟨b :: bs, by simp [h1], fun j a b' ha hb' => ?_⟩
    cases j with
    | zero =>
      simp only [List.getElem?_cons_zero] at ha hb'
      cases ha; cases hb'; exact hb
    | succ j =>
      simp only [List.getElem?_cons_succ] at ha hb'
      exact h2 j a b' ha hb'
theorem tupD_of {X : Cx} {pins : List (Addr × Obj)} {σ : St} {H : Hp} {s : Shared} {a : Addr} {xs : List V} (I : Inv X pins σ H s) (h : TupD X.K H a xs) : ∃ its : List Value, Vals xs its ∧ PlainSeq "tuple" s.heap a its.toArray ∧ xs.length ≤ sizeLine := by
  rcases h with ⟨o, h, hd⟩ | ⟨o, its, n, hk, hc, hd, hs, hz, r⟩
  · obtain ⟨g, z, its, rv, o', g', hc, n, hs⟩ := I.hok a _ h
    rw [g] at g'
    cases g'
    exact ⟨its, rv, ⟨o, n, g, hc, hd, hs⟩, z⟩
  · refine ⟨its.toList, r, ⟨o, n, I.kIn a o hk, hc, hd, by simpa using hs⟩, ?_⟩
    have e := r.length
    simp only [Array.length_toList] at e
    omega
section
variable {X : Cx}
/-- dict(t) of a tuple of pairs -/
theorem call_dictT (hcalm : X.calm = true) : CallR X (.type "dict") (fun xs H Q => ∃ (a : Addr) (ps : List Addr) (kvs : List (Key × V)), xs = [.ref a] ∧ TupD X.K H a (ps.map V.ref) ∧ Paired (fun p kv => SqT X.K H p [kV kv.1, kv.2]) ps kvs ∧
    ∀ p, H p = none → Q (.ref p) (upd H p (.dK (mergeK [] kvs)))) := by
  intro pins s σ H xs us Q I r q
  obtain ⟨a, ps, kvs, ex, hq, hp, q⟩ := q
  subst ex
  obtain ⟨u, eu, rx⟩ := vals1 r
  subst eu
  cases rx
  obtain ⟨its, rv, pl, hz⟩ := tupD_of I hq
  have ei := refs_at rv
  subst ei
  rw [List.length_map] at hz
  obtain ⟨prs, rel, hl, hpr⟩ := pairs_of I hp
  obtain ⟨us, hul, hu⟩ := pick_list prs (fun j (q' : Key × Value) (u : Value) => ∃ b, ps[j]? = some b ∧ PyProof.Rows.IsTup s.heap b #[u, q'.2] ∧ L2.keyIs q'.1 u = true) fun j q' e => by
    obtain ⟨b, u, e1, e2, e3⟩ := hpr j q' e
    exact ⟨u, b, e1, e2, e3⟩
  have lz : (us.zip (prs.map Prod.snd)).length = prs.length := by rw [List.length_zip, List.length_map, hul]; omega
  have hat : ∀ j k v, (us.zip (prs.map Prod.snd))[j]? = some (k, v) → ∃ (q' : Key × Value) (b : Addr), prs[j]? = some q' ∧ q'.2 = v ∧ ps[j]? = some b ∧ PyProof.Rows.IsTup s.heap b #[k, v] ∧ L2.keyIs q'.1 k = true := fun j k v e => by
    obtain ⟨e1, e2⟩ := List.getElem?_zip_eq_some.mp e
    rw [List.getElem?_map] at e2
    cases e3 : prs[j]? with
    | none => rw [e3] at e2; cases e2
    | some q' =>
      rw [e3] at e2
      have e2 : q'.2 = v := by simpa using e2
      subst e2
      obtain ⟨b, h1, h2, h3⟩ := hu j q' k e3 e1
      exact ⟨q', b, e3, rfl, h1, h2, h3⟩
  refine PySem.call_dict_pairs (knd := mixKind X.prog X.w) (kvs := prs) (PairArg.tuple a (ps.map Value.ref).toArray (fun j => (ps[j]?).getD 0) (us.zip (prs.map Prod.snd))) (I.ok.hd hcalm) ⟨pl, by simp [lz, hl], fun j k v e => ?_⟩ ⟨lz.symm, fun i key v e => ?_⟩ (by rw [lz, hl]; exact hz) fun h' tk hd' k => ?_
  · obtain ⟨q', b, _, _, h1, h2, _⟩ := hat j k v e
    refine ⟨by simp [h1], .inl ?_⟩
    show s.heap.IsTuple ((ps[j]?).getD 0) #[k, v]
    rw [h1]
    exact h2
  · obtain ⟨q', b, h0, h1, _, _, h3⟩ := hat i key v e
    exact ⟨q'.1, by rw [h0, ← h1], h3⟩
  · have hm : (s.heap.objs.size == sysModules) = false := beq_eq_false_iff_ne.mpr (Nat.ne_of_gt I.big)
    have hlen : (mergeK [] kvs).length ≤ sizeLine := by
      refine Nat.le_trans (length_mergeK kvs []) ?_
      rw [List.length_nil, Nat.zero_add, rel.length, hl]
      exact hz
    exact ⟨.ref s.heap.objs.size, upd H s.heap.objs.size (.dK (mergeK [] kvs)), I.laid (t' := tk) (fun b o e => k b o (fun z => nomatch z) e) (Nat.le_refl _) (show ObjOk X.prog X.w _ _ _ (.dK (mergeK [] kvs)) from ⟨hlen, hm, merged [] prs, KV.merge rel .nil, hd'⟩), rfl, q _ (I.hok.fresh (Nat.le_refl _))⟩
def rDict (K : PySem.W.Frag) : List V → Hp → VK → Prop := fun xs H Q => (∃ (a : Addr) (ps : List Addr) (kvs : List (Key × V)), xs = [.ref a] ∧ SqL K H a (ps.map V.ref) ∧ Paired (fun p kv => SqT K H p [kV kv.1, kv.2]) ps kvs ∧ ∀ p, H p = none → Q (.ref p) (upd H p (.dK (mergeK [] kvs)))) ∨
  (∃ (a : Addr) (ps : List Addr) (kvs : List (Key × V)), xs = [.ref a] ∧ TupD K H a (ps.map V.ref) ∧ Paired (fun p kv => SqT K H p [kV kv.1, kv.2]) ps kvs ∧ ∀ p, H p = none → Q (.ref p) (upd H p (.dK (mergeK [] kvs))))
theorem call_dictB (hcalm : X.calm = true) : CallR X (.type "dict") (rDict X.K) := by
  intro pins s σ H xs us Q I r q
  rcases q with q | q
  · exact call_dictP hcalm pins s σ H xs us Q I r q
  · exact call_dictT hcalm pins s σ H xs us Q I r q
end
section
variable {K : PySem.W.Frag} {H : Hp} {Ps : List Addr}
theorem pairs_rp : ∀ {xs : List V} {ds : List D} {es : List (Str × D)}, RpAll K (hide H Ps) xs ds → kvOf ds = some es → ∃ (ps : List Addr) (kvs : List (Key × V)), xs = ps.map V.ref ∧ Paired (fun p kv => SqT K H p [kV kv.1, kv.2]) ps kvs ∧ RpKV K (hide H Ps) kvs (es.map fun p => (.str p.1, p.2)) ∧ ps.length = ds.length
  | _, _, es, .nil, h => by
    cases h
    exact ⟨[], [], rfl, .nil, .nil, rfl⟩
  | _, _, es, .cons (v := v) (vs := vs) (d := d) (ds := ds) h r, hk => by
    cases d with
    | tuple ts =>
      match ts, hk with
      | [.str k, e], hk =>
        have hk : (kvOf ds).map ((k, e) :: ·) = some es := hk
        cases q : kvOf ds with
        | none => rw [q] at hk; cases hk
        | some es' =>
          rw [q] at hk
          cases hk
          obtain ⟨ps, kvs, h1, h2, h3, h4⟩ := pairs_rp r q
          cases h with
          | tup ht rr z =>
            cases rr with
            | cons ra rr =>
              cases rr with
              | cons rb rr =>
                cases rr
                cases ra with
                | str z1 z2 => exact ⟨_ :: ps, (.inr k, _) :: kvs, by rw [h1]; rfl, .cons (seqT (hide_le _ _) ht.sq) h2, .cons z1 z2 rb h3, by simp [h4]⟩
      | [], hk => cases hk
      | [a], hk => cases a <;> cases hk
      | [.none, _], hk => cases hk
      | [.bool _, _], hk => cases hk
      | [.int _, _], hk => cases hk
      | [.list _, _], hk => cases hk
      | [.tuple _, _], hk => cases hk
      | [.dict _, _], hk => cases hk
      | a :: b :: c :: r, hk => cases a <;> cases hk
    | _ => cases hk
theorem RpKV.merge {H : Hp} : ∀ {kvs : List (Key × V)} {es : List (Str × D)} {acc : List (Key × V)} {dacc : List (D × D)}, RpKV K H kvs (es.map fun p => (.str p.1, p.2)) → RpKV K H acc dacc → RpKV K H (mergeK acc kvs) (mergeD dacc es)
  | [], [], _, _, _, h => h
  | _ :: _, [], _, _, r, _ => by cases r
  | [], _ :: _, _, _, r, _ => by cases r
  | kv :: kvs, (k, d) :: es, acc, dacc, r, h => by
    rw [List.map_cons] at r
    cases r with
    | cons z1 z2 hv r =>
      have := RpKV.merge (kvs := kvs) (es := es) r (RpKV.put z1 z2 hv h)
      exact this
theorem r_dict : R1ok K dictD (fun v H Q => rDict K [v] H Q) := by
  intro v H Ps d x b Q dom h1 hx q
  have fin : ∀ {ds : List D} {es : List (Str × D)} {ps : List Addr} {kvs : List (Key × V)}, kvOf ds = some es → RpKV K (hide H Ps) kvs (es.map fun p => (.str p.1, p.2)) → ps.length = ds.length → ds.length ≤ sizeLine → Paired (fun p kv => SqT K H p [kV kv.1, kv.2]) ps kvs → dictL ds = .ok x → ∀ p, H p = none → Q (.ref p) (upd H p (.dK (mergeK [] kvs))) := fun {ds es ps kvs} hk hr hl hz hp hx p hpn => by
    unfold dictL at hx
    rw [hk] at hx
    cases hx
    have m := hr.merge (acc := []) (dacc := []) .nil
    have hlen : (mergeD [] es).length ≤ sizeLine := by
      rw [← m.length]
      refine Nat.le_trans (length_mergeK kvs []) ?_
      rw [List.length_nil, Nat.zero_add, ← hp.length, hl]
      exact hz
    refine q _ _ (same_upd hpn) (.dct (.inl (by rw [hide_out (not_hid dom hpn), upd_same])) (m.mono (hide_mono (same_upd hpn) Ps)) hlen)
  cases d with
  | list ds =>
    obtain ⟨a, vs, rfl, e1, r, z⟩ := h1.list
    cases hk : kvOf ds with
    | none =>
      have hx : dictL ds = .ok x := hx
      unfold dictL at hx
      rw [hk] at hx; cases hx
    | some es =>
      obtain ⟨ps, kvs, rfl, hp, hr, hl⟩ := pairs_rp r hk
      exact .inl ⟨a, ps, kvs, rfl, SqL.of e1, hp, fin hk hr hl z hp hx⟩
  | tuple ds =>
    obtain ⟨a, vs, rfl, e1, r, z⟩ := h1.tupleD
    cases hk : kvOf ds with
    | none =>
      have hx : dictL ds = .ok x := hx
      unfold dictL at hx
      rw [hk] at hx; cases hx
    | some es =>
      obtain ⟨ps, kvs, rfl, hp, hr, hl⟩ := pairs_rp r hk
      exact .inr ⟨a, ps, kvs, rfl, e1, hp, fin hk hr hl z hp hx⟩
  | _ => cases hx
end
end Tq

/-! Tq, part Z: dict(zip(..)), tuple(zip(..)), places in lists. -/
namespace Tq
open PySem L2 Res
/-! ### lists and tuples alike -/
def SqB (t : Bool) (K : PySem.W.Frag) (H : Hp) (a : Addr) (xs : List V) : Prop := match t with
  | true => SqT K H a xs
  | false => SqL K H a xs
def ItrB (t : Bool) (h : Heap) (it a : Addr) (i : Nat) : Prop := match t with
  | true => h.IsTupleIter it a i
  | false => h.IsListIter it a i
def SeqB (t : Bool) (h : Heap) (a : Addr) (its : Array Value) : Prop := match t with
  | true => h.IsTuple a its
  | false => h.IsList a its
def itObj (t : Bool) (a : Addr) : Obj := match t with
  | true => { cls := .type "tuple_iterator", data := .fields #[.ref a, .int 0 0] }
  | false => { cls := .type "list_iterator", data := .fields #[.ref a, .int 0 0] }
theorem seqB_of {t : Bool} {X : Cx} {pins : List (Addr × Obj)} {σ : St} {H : Hp} {s : Shared} {a : Addr} {xs : List V} (I : Inv X pins σ H s) (h : SqB t X.K H a xs) :
    ∃ its : List Value, Vals xs its ∧ SeqB t s.heap a its.toArray ∧ a < s.heap.objs.size := by
  cases t with
  | true =>
    obtain ⟨its, rv, p, _⟩ := I.tuple h
    obtain ⟨o, ho, _⟩ := id p
    exact ⟨its, rv, p, Heap.lt_size ho⟩
  | false =>
    obtain ⟨its, rv, p, _⟩ := I.list h
    exact ⟨its, rv, p.isList, p.lt⟩
theorem sqB_inj {t : Bool} {X : Cx} {pins : List (Addr × Obj)} {σ : St} {H : Hp} {s : Shared} {a : Addr} {xs ys : List V} (I : Inv X pins σ H s) (h : SqB t X.K H a xs) (h' : SqB t X.K H a ys) : xs = ys := by
  cases t with
  | true => exact I.tuple_inj h h'
  | false => exact I.list_inj h h'
theorem itrB_obj {t : Bool} {h : Heap} {it a : Addr} {i : Nat} (q : ItrB t h it a i) : ∃ o, h.get? it = some o ∧ ∀ v, o.data ≠ .cell v := by
  cases t with
  | true =>
    obtain ⟨o, ho, hc, hd⟩ := q
    exact ⟨o, ho, fun v z => by rw [hd] at z; cases z⟩
  | false =>
    obtain ⟨o, ho, hc, hd⟩ := q
    exact ⟨o, ho, fun v z => by rw [hd] at z; cases z⟩
theorem itrB_at {t : Bool} {h h' : Heap} {it a : Addr} {i : Nat} (q : ItrB t h it a i) (k : ∀ o, h.get? it = some o → h'.get? it = some o) : ItrB t h' it a i := by
  cases t with
  | true => exact Heap.IsTupleIter.at q k
  | false => exact Heap.IsListIter.at q k
theorem itrB_new {t : Bool} {h : Heap} {it a : Addr} (q : h.get? it = some (itObj t a)) : ItrB t h it a 0 := by
  cases t with
  | true => exact ⟨_, q, rfl, rfl⟩
  | false => exact ⟨_, q, rfl, rfl⟩
theorem drawsB {prog : Program} {w : World} {A : Around} (t : Bool) (hh : A.handled = none) (it a : Addr) (hne : a ≠ it) (its : Array Value) :
    Draws prog w A it [it, a] its.size (fun i v => its[i]? = some v) (fun i h => ItrB t h it a i ∧ SeqB t h a its) := by
  cases t with
  | true => exact Draws.tuple hh it a hne its
  | false => exact Draws.list hh it a hne its
theorem beginsB (t : Bool) (a : Addr) (its : Array Value) : Begins (.ref a) (itObj t a) fun h => SeqB t h a its := by
  cases t with
  | true => exact begins_tuple a its
  | false => exact begins_list a its
theorem seqB_ne {t : Bool} {h : Heap} {it a : Addr} {i : Nat} {its : Array Value} (q : ItrB t h it a i) (p : SeqB t h a its) : a ≠ it := fun z => by
  cases t with
  | true =>
    obtain ⟨o1, g1, c1, _⟩ := q
    obtain ⟨o2, g2, c2, _⟩ := p
    rw [z, g1] at g2
    cases g2
    rw [c1] at c2
    exact absurd c2 (by decide +kernel)
  | false =>
    obtain ⟨o1, g1, c1, _⟩ := q
    obtain ⟨o2, g2, c2, _⟩ := p
    rw [z, g1] at g2
    cases g2
    rw [c1] at c2
    exact absurd c2 (by decide +kernel)
theorem sep_new (N a b : Nat) (ha : a < N) (hb : b < N) : ZipSep2 (N + 4) (N + 2) (N + 3) N (N + 1) [N, a] [N + 1, b] := by
  have h1 : ∀ k : Nat, N + k ≠ a := fun k => by omega
  have h2 : ∀ k : Nat, N + k ≠ b := fun k => by omega
  have h3 : N ≠ b := by omega
  constructor <;> simp [h1, h2, h3]
theorem seqB_at {t : Bool} {h h' : Heap} {a : Addr} {its : Array Value} (q : SeqB t h a its) (k : ∀ o, h.get? a = some o → h'.get? a = some o) : SeqB t h' a its := by
  cases t with
  | true => exact Heap.IsTuple.at q k
  | false => exact Heap.IsList.at q k
theorem seqB_obj {t : Bool} {h : Heap} {a : Addr} {its : Array Value} (q : SeqB t h a its) : ∃ o, h.get? a = some o := by
  cases t with
  | true => exact ⟨_, q.choose_spec.1⟩
  | false => exact ⟨_, q.choose_spec.1⟩
/-! ### a zip whose tuple is out -/
section
variable {prog : Program} {w : World} {A : Around} {E : Value → Shared → Prop} {s : Shared} {z TI TO i1 i2 T : Addr} {fp1 fp2 : List Addr} {n1 n2 i : Nat} {P1 P2 : Nat → Value → Prop} {St1 St2 : Nat → Heap → Prop} {f : Bool} {oT : Obj}
theorem outZ_item {Q : Value → Shared → Prop} (S : ZipSep2 z TI TO i1 i2 fp1 fp2) (D1 : Draws prog w A i1 fp1 n1 P1 St1) (D2 : Draws prog w A i2 fp2 n2 P2 St2) (hz : IsZipHeld s.heap z TI TO T f) (hT : s.heap.get? T = some oT) (hTI : IsTupOf2 s.heap TI (.ref i1) (.ref i2))
    (st1 : St1 i s.heap) (st2 : St2 i s.heap) (lt1 : i < n1) (lt2 : i < n2)
    (fin : ∀ x1 x2 h' tk, P1 i x1 → P2 i x2 → IsZipHeld h' z TI TO T true → St1 (i + 1) h' → St2 (i + 1) h' → IsTupOf2 h' s.heap.objs.size x1 x2 → (∀ c o, c ≠ z → c ≠ i1 → c ≠ i2 → s.heap.get? c = some o → h'.get? c = some o) → Q (.ref s.heap.objs.size) { s with heap := h', toks := tk }) :
    wpAny (model prog w) A (Builtin.«zip.__next__» ⟨[.ref z], []⟩) (fun r s' => ∃ v, r = .done (.ret v) ∧ Q v s') E s := by
  obtain ⟨hp, g, d, tk0, os⟩ := s
  show wpAny _ _ (field (.ref z) 2 >>= _) _ _ _
  refine wpAny_bind (wpAny_field hz rfl (x := .bool false) rfl ?_)
  show wpAny _ _ (field (.ref z) 3 >>= _) _ _ _
  refine wpAny_bind (wpAny_field hz rfl (x := .ref TI) rfl ?_)
  refine wpAny_bind (wpAny_seqItems hTI rfl ?_)
  refine wpAny_bind (wpAny_tupleHeld_zip hz hT fun g0 z0 s0 => ?_)
  simp only [Bool.false_eq_true, if_false]
  refine wpAny_bind ?_
  rw [← Array.forIn_toList]
  simp only [List.forIn_cons, List.forIn_nil]
  refine wpAny_bind (wpAny_bind (wpAny_holding ?_))
  refine wpAny_bind (D1.item i ⟨g0, g, d, tk0, os⟩ _ _ lt1 (D1.over st1 s0 S.zf1) fun x1 g1 tk1 p1 sn1 s1 => wpAny_pure ?_)
  replace s1 : Heap.SameBut i1 g0 g1 := s1
  refine wpAny_pure ?_
  refine wpAny_bind (wpAny_bind (wpAny_holding ?_))
  refine wpAny_bind (D2.item i ⟨g1, g, d, tk1, os⟩ _ _ lt2 (D2.over (D2.over st2 s0 S.zf2) s1 S.sep1_2) fun x2 g2 tk2 p2 sn2 s2 => wpAny_pure ?_)
  replace s2 : Heap.SameBut i2 g1 g2 := s2
  refine wpAny_pure (wpAny_pure ?_)
  show wpAny _ _ (newTuple [x1, x2] >>= _) _ _ _
  refine wpAny_bind (wpAny_newTuple ?_)
  have sz : g2.objs.size = hp.objs.size := by rw [s2.1, s1.1, s0.1]
  have z2 : IsZipHeld g2 z TI TO T true := s2.extBut _ _ S.zi2 (s1.extBut _ _ S.zi1 z0)
  have kp : ∀ c o, c ≠ z → c ≠ i1 → c ≠ i2 → hp.get? c = some o → g2.get? c = some o := fun c o c1 c2 c3 e => s2.extBut _ _ c3 (s1.extBut _ _ c2 (s0.extBut _ _ c1 e))
  refine wpAny_pure ⟨_, rfl, ?_⟩
  show Q (.ref g2.objs.size) _
  have new : IsTupOf2 (g2.push { cls := .type "tuple", data := .seq #[x1, x2] }) g2.objs.size x1 x2 := Heap.get?_push_size _ rfl
  rw [sz] at new ⊢
  have up : ∀ b o, g2.get? b = some o → (g2.push { cls := .type "tuple", data := .seq #[x1, x2] }).get? b = some o := fun b o e => Heap.get?_push_of_some _ e
  exact fin x1 x2 _ tk2 p1 p2 (up _ _ z2) (D1.frame _ _ _ (D1.over sn1 s2 S.sep2_1) fun b _ o e => up b o e) (D2.frame _ _ _ sn2 fun b _ o e => up b o e) new fun c o c1 c2 c3 e => up c o (kp c o c1 c2 c3 e)
theorem outZ_end {Q : Fin → Shared → Prop} (S : ZipSep2 z TI TO i1 i2 fp1 fp2) (D1 : Draws prog w A i1 fp1 n1 P1 St1) (D2 : Draws prog w A i2 fp2 n2 P2 St2) (hz : IsZipHeld s.heap z TI TO T f) (hT : s.heap.get? T = some oT) (hTI : IsTupOf2 s.heap TI (.ref i1) (.ref i2))
    (st1 : St1 i s.heap) (st2 : St2 i s.heap) (le1 : i ≤ n1) (le2 : i ≤ n2) (en : i = n1 ∨ i = n2)
    (fin : ∀ h' tk e, (∀ c o, c ≠ z → c ≠ i1 → c ≠ i2 → s.heap.get? c = some o → h'.get? c = some o) → (∃ o, h'.get? e = some o ∧ o.cls = .type "StopIteration") → E (.ref e) { s with heap := h', toks := tk }) :
    wpAny (model prog w) A (Builtin.«zip.__next__» ⟨[.ref z], []⟩) Q E s := by
  obtain ⟨hp, g, d, tk0, os⟩ := s
  show wpAny _ _ (field (.ref z) 2 >>= _) _ _ _
  refine wpAny_bind (wpAny_field hz rfl (x := .bool false) rfl ?_)
  show wpAny _ _ (field (.ref z) 3 >>= _) _ _ _
  refine wpAny_bind (wpAny_field hz rfl (x := .ref TI) rfl ?_)
  refine wpAny_bind (wpAny_seqItems hTI rfl ?_)
  refine wpAny_bind (wpAny_tupleHeld_zip hz hT fun g0 z0 s0 => ?_)
  simp only [Bool.false_eq_true, if_false]
  refine wpAny_bind ?_
  rw [← Array.forIn_toList]
  simp only [List.forIn_cons, List.forIn_nil]
  refine wpAny_bind (wpAny_bind (wpAny_holding ?_))
  by_cases lt1 : i < n1
  · have e2 : i = n2 := by omega
    refine wpAny_bind (D1.item i ⟨g0, g, d, tk0, os⟩ _ _ lt1 (D1.over st1 s0 S.zf1) fun x1 g1 tk1 p1 sn1 s1 => wpAny_pure ?_)
    replace s1 : Heap.SameBut i1 g0 g1 := s1
    refine wpAny_pure ?_
    refine wpAny_bind (wpAny_bind (wpAny_holding ?_))
    refine wpAny_bind (D2.done ⟨g1, g, d, tk1, os⟩ _ _ (by rw [← e2]; exact D2.over (D2.over st2 s0 S.zf2) s1 S.sep1_2) fun q e hq he => ?_)
    exact fin q tk1 e (fun c o c1 c2 c3 x => hq _ _ c3 (s1.extBut _ _ c2 (s0.extBut _ _ c1 x))) he
  · have e1 : i = n1 := by omega
    refine wpAny_bind (D1.done ⟨g0, g, d, tk0, os⟩ _ _ (by rw [← e1]; exact D1.over st1 s0 S.zf1) fun q e hq he => ?_)
    exact fin q tk0 e (fun c o c1 c2 c3 x => hq _ _ c2 (s0.extBut _ _ c1 x)) he
theorem outZ_next {Q : Option Value → Shared → Prop} (S : ZipSep2 z TI TO i1 i2 fp1 fp2) (D1 : Draws prog w A.in1 i1 fp1 n1 P1 St1) (D2 : Draws prog w A.in1 i2 fp2 n2 P2 St2) (hz : IsZipHeld s.heap z TI TO T f) (hT : s.heap.get? T = some oT) (hTI : IsTupOf2 s.heap TI (.ref i1) (.ref i2))
    (st1 : St1 i s.heap) (st2 : St2 i s.heap) (lt1 : i < n1) (lt2 : i < n2)
    (fin : ∀ x1 x2 h' tk, P1 i x1 → P2 i x2 → IsZipHeld h' z TI TO T true → St1 (i + 1) h' → St2 (i + 1) h' → IsTupOf2 h' s.heap.objs.size x1 x2 → (∀ c o, c ≠ z → c ≠ i1 → c ≠ i2 → s.heap.get? c = some o → h'.get? c = some o) → Q (some (.ref s.heap.objs.size)) { s with heap := h', toks := tk }) :
    wpAny (model prog w) A (pyNext (.ref z)) Q E s := by
  have ty : s.TypeIs (.ref z) "zip" := ⟨_, hz, rfl⟩
  unfold pyNext
  refine wpAny_bind (wpAny_attempt (wpAny_callSpecial?_slot (name := Str.ofString "__next__") ty PySem.F.slot_zip_next (wpAny_call_entry PySem.F.slot_zip_next ty PySem.F.entry_zip_next ?_ (PySem.F.args_zip_next_1 _))))
  exact outZ_item S D1 D2 hz hT hTI st1 st2 lt1 lt2 fun x1 x2 h' tk y1 y2 b1 b2 b3 b4 b5 => wpAny_pure (fin x1 x2 h' tk y1 y2 b1 b2 b3 b4 b5)
theorem outZ_stop {Q : Option Value → Shared → Prop} (S : ZipSep2 z TI TO i1 i2 fp1 fp2) (D1 : Draws prog w A.in1 i1 fp1 n1 P1 St1) (D2 : Draws prog w A.in1 i2 fp2 n2 P2 St2) (hz : IsZipHeld s.heap z TI TO T f) (hT : s.heap.get? T = some oT) (hTI : IsTupOf2 s.heap TI (.ref i1) (.ref i2))
    (st1 : St1 i s.heap) (st2 : St2 i s.heap) (le1 : i ≤ n1) (le2 : i ≤ n2) (en : i = n1 ∨ i = n2)
    (fin : ∀ h' tk, (∀ c o, c ≠ z → c ≠ i1 → c ≠ i2 → s.heap.get? c = some o → h'.get? c = some o) → Q none { s with heap := h', toks := tk }) :
    wpAny (model prog w) A (pyNext (.ref z)) Q E s := by
  have ty : s.TypeIs (.ref z) "zip" := ⟨_, hz, rfl⟩
  unfold pyNext
  refine wpAny_bind (wpAny_attempt (wpAny_callSpecial?_slot (name := Str.ofString "__next__") ty PySem.F.slot_zip_next (wpAny_call_entry PySem.F.slot_zip_next ty PySem.F.entry_zip_next ?_ (PySem.F.args_zip_next_1 _))))
  refine outZ_end S D1 D2 hz hT hTI st1 st2 le1 le2 en fun h' tk e hk he => ?_
  obtain ⟨o, ho, hc⟩ := he
  exact wpAny_bind (wpAny_isInstance (T := "StopIteration") (b := true) ⟨o, ho, hc⟩ isSubtype_stop (wpAny_pure (fin h' tk hk)))
end
/-- zip(a, b) as a source of pairs -/
theorem pairsZ {prog : Program} {w : World} (t1 t2 : Bool) (z TI TO i1 i2 a b : Addr) (S : ZipSep2 z TI TO i1 i2 [i1, a] [i2, b]) (ni1 : a ≠ i1) (ni2 : b ≠ i2) (xs ys : Array Value) :
    PairArg prog w "zip" z [z, TI, TO, i1, i2, a, b] [z, TO, i1, i2] (min xs.size ys.size) (fun i k v => xs[i]? = some k ∧ ys[i]? = some v)
      (fun h => IsZip h z TI TO .none ∧ IsTupOf2 h TI (.ref i1) (.ref i2) ∧ (∃ u v, IsTupOf2 h TO u v) ∧ ItrB t1 h i1 a 0 ∧ ItrB t2 h i2 b 0 ∧ SeqB t1 h a xs ∧ SeqB t2 h b ys) where
  type := fun s ok => ⟨_, ok.1, rfl⟩
  notDict := by decide
  keep := fun h h' ok hk => by
    obtain ⟨hz, hTI, ⟨u, v, hTO⟩, h1, h2, h3, h4⟩ := ok
    exact ⟨hk _ _ hz, hk _ _ hTI, ⟨u, v, hk _ _ hTO⟩, itrB_at h1 fun o e => hk _ o e, itrB_at h2 fun o e => hk _ o e, seqB_at h3 fun o e => hk _ o e, seqB_at h4 fun o e => hk _ o e⟩
  there := fun h ok c hc => by
    obtain ⟨hz, hTI, ⟨u, v, hTO⟩, h1, h2, h3, h4⟩ := ok
    obtain ⟨o1, e1, _⟩ := itrB_obj h1
    obtain ⟨o2, e2, _⟩ := itrB_obj h2
    obtain ⟨o3, e3⟩ := seqB_obj h3
    obtain ⟨o4, e4⟩ := seqB_obj h4
    have c' : c = z ∨ c = TI ∨ c = TO ∨ c = i1 ∨ c = i2 ∨ c = a ∨ c = b := by simpa using hc
    rcases c' with q | q | q | q | q | q | q <;> rw [q]
    · exact ⟨_, hz⟩
    · exact ⟨_, hTI⟩
    · exact ⟨_, hTO⟩
    · exact ⟨_, e1⟩
    · exact ⟨_, e2⟩
    · exact ⟨_, e3⟩
    · exact ⟨_, e4⟩
  sub := fun c hc => by
    have c' : c = z ∨ c = TO ∨ c = i1 ∨ c = i2 := by simpa using hc
    rcases c' with q | q | q | q <;> simp [q]
  noKeys := fun A s Q E hA ok h => getAttrOr_miss_zip ok.1 rfl rfl rfl zip_no_keys (by decide +kernel) hA h
  iter := fun A s d Q E hA ok hd hdf h => by
    obtain ⟨hz, hTI, ⟨u, v, hTO⟩, h1, h2, h3, h4⟩ := ok
    simp only [List.mem_cons, List.not_mem_nil, or_false, not_or] at hdf
    obtain ⟨dz, dTI, dTO, d1, d2, da, db⟩ := hdf
    have D1 := drawsB (prog := prog) (w := w) (A := A.in1) t1 (show A.in1.handled = none from hA) i1 a ni1 xs
    have D2 := drawsB (prog := prog) (w := w) (A := A.in1) t2 (show A.in1.handled = none from hA) i2 b ni2 ys
    refine wpAny_pyIter_zip hz (h z [z, TO, i1, i2] (fun i h => IsTupOf2 h TI (.ref i1) (.ref i2) ∧ ItrB t1 h i1 a i ∧ ItrB t2 h i2 b i ∧ SeqB t1 h a xs ∧ SeqB t2 h b ys ∧
      ((IsZip h z TI TO .none ∧ ∃ u v, IsTupOf2 h TO u v) ∨ ∃ T f oT, IsZipHeld h z TI TO T f ∧ h.get? T = some oT ∧ T ≠ z ∧ T ≠ i1 ∧ T ≠ i2 ∧ T ≠ d)) s.heap s.toks ?_
      ⟨hTI, h1, h2, h3, h4, .inl ⟨hz, u, v, hTO⟩⟩ (fun _ _ e => e) fun c hc => .inl hc)
    exact {
      off := fun hm => by
        have hm' : d = z ∨ d = TO ∨ d = i1 ∨ d = i2 := by simpa using hm
        rcases hm' with e | e | e | e
        · exact dz e
        · exact dTO e
        · exact d1 e
        · exact d2 e
      frame := fun i g g' st hk => by
        obtain ⟨y1, y2, y3, y4, y5, y6⟩ := st
        refine ⟨hk _ _ (Ne.symm dTI) y1, itrB_at y2 fun o e => hk _ o (Ne.symm d1) e, itrB_at y3 fun o e => hk _ o (Ne.symm d2) e, seqB_at y4 fun o e => hk _ o (Ne.symm da) e, seqB_at y5 fun o e => hk _ o (Ne.symm db) e, ?_⟩
        rcases y6 with ⟨q, u, v, q2⟩ | ⟨T, f, oT, q, q2, r1, r2, r3, r4⟩
        · exact .inl ⟨hk _ _ (Ne.symm dz) q, u, v, hk _ _ (Ne.symm dTO) q2⟩
        · exact .inr ⟨T, f, oT, hk _ _ (Ne.symm dz) q, hk _ _ r4 q2, r1, r2, r3, r4⟩
      item := fun i s1 Q1 E1 hi st hds hQ => by
        obtain ⟨y1, y2, y3, y4, y5, y6⟩ := st
        have lx : i < xs.size := Nat.lt_of_lt_of_le hi (Nat.min_le_left _ _)
        have ly : i < ys.size := Nat.lt_of_lt_of_le hi (Nat.min_le_right _ _)
        have lt : ∀ {c o}, s1.heap.get? c = some o → s1.heap.objs.size ≠ c := fun e => Nat.ne_of_gt (Heap.lt_size e)
        have m1 : s1.heap.objs.size ≠ i1 := by obtain ⟨_, e, _⟩ := itrB_obj y2; exact lt e
        have m2 : s1.heap.objs.size ≠ i2 := by obtain ⟨_, e, _⟩ := itrB_obj y3; exact lt e
        have az : a ≠ z := fun e => S.zf1 (by simp [e])
        have bz : b ≠ z := fun e => S.zf2 (by simp [e])
        have a2 : a ≠ i2 := fun e => S.sep2_1 (by simp [e])
        have b1 : b ≠ i1 := fun e => S.sep1_2 (by simp [e])
        rcases y6 with ⟨q, u, v, q2⟩ | ⟨T, f, oT, q, q2, r1, r2, r3, r4⟩
        · refine wpAny_pyNext_zipD2_item S D1 D2 q y1 q2 ⟨y2, y4⟩ ⟨y3, y5⟩ lx ly fun x1 x2 h' tk p1 p2 z1 T1 n1 n2 T2 sz hk => ?_
          exact hQ s1.heap.objs.size x1 x2 h' tk ⟨p1, p2⟩ (.inl ⟨_, T2, rfl, _, rfl⟩) ⟨hk _ _ S.TIz S.TITO S.TIi1 S.TIi2 y1, n1.1, n2.1, n1.2, n2.2, .inr ⟨s1.heap.objs.size, false, _, z1, T2, lt q, m1, m2, Nat.ne_of_gt hds⟩⟩
            fun c o hc e => hk c o (fun x => hc (by simp [x])) (fun x => hc (by simp [x])) (fun x => hc (by simp [x])) (fun x => hc (by simp [x])) e
        · refine outZ_next S D1 D2 q q2 y1 ⟨y2, y4⟩ ⟨y3, y5⟩ lx ly fun x1 x2 h' tk p1 p2 z1 n1 n2 T2 hk => ?_
          exact hQ s1.heap.objs.size x1 x2 h' tk ⟨p1, p2⟩ (.inl ⟨_, T2, rfl, _, rfl⟩) ⟨hk _ _ S.TIz S.TIi1 S.TIi2 y1, n1.1, n2.1, n1.2, n2.2, .inr ⟨T, true, oT, z1, hk _ _ r1 r2 r3 q2, r1, r2, r3, r4⟩⟩
            fun c o hc e => hk c o (fun x => hc (by simp [x])) (fun x => hc (by simp [x])) (fun x => hc (by simp [x])) e
      done := fun s1 Q1 E1 st hQ => by
        obtain ⟨y1, y2, y3, y4, y5, y6⟩ := st
        have le1 := Nat.min_le_left xs.size ys.size
        have le2 := Nat.min_le_right xs.size ys.size
        have en : min xs.size ys.size = xs.size ∨ min xs.size ys.size = ys.size := by omega
        rcases y6 with ⟨q, u, v, q2⟩ | ⟨T, f, oT, q, q2, r1, r2, r3, r4⟩
        · exact wpAny_pyNext_zipD2_end S D1 D2 q y1 q2 ⟨y2, y4⟩ ⟨y3, y5⟩ le1 le2 en fun h' tk hk => hQ h' tk fun c o hc e => hk c o (fun x => hc (by simp [x])) (fun x => hc (by simp [x])) (fun x => hc (by simp [x])) (fun x => hc (by simp [x])) e
        · exact outZ_stop S D1 D2 q q2 y1 ⟨y2, y4⟩ ⟨y3, y5⟩ le1 le2 en fun h' tk hk => hQ h' tk fun c o hc e => hk c o (fun x => hc (by simp [x])) (fun x => hc (by simp [x])) (fun x => hc (by simp [x])) e }
/-! ### dict(zip(a, b)), keys texts -/
section
variable {X : Cx}
def kvsZ (ks : List Str) (ys : List V) : List (Key × V) := (ks.zip ys).map fun q => (.inr q.1, q.2)
def rDzip (K : PySem.W.Frag) : R2 := fun x y H Q => ∃ (t1 t2 : Bool) (a b : Addr) (ks : List Str) (ys : List V), x = .ref a ∧ y = .ref b ∧ SqB t1 K H a (ks.map V.str) ∧ SqB t2 K H b ys ∧ ks.length ≤ sizeLine ∧
  ∀ p, H p = none → Q (.ref p) (upd H p (.dK (mergeK [] (kvsZ ks ys))))
theorem kvZ : ∀ {ks : List Str} {ys : List V} {us : List Value}, Vals ys us → KV (kvsZ ks ys) ((ks.zip us).map fun q => ((.inr q.1 : Key), q.2))
  | [], _, _, _ => .nil
  | _ :: _, _, _, .nil => .nil
  | k :: ks, _, _, .cons r rs => .cons ⟨rfl, r⟩ (kvZ rs)
theorem pe_dzip {e e2 : Expr} {ta tb : TE} {p p2 q pos : Pos} (hc : X.calm = true) (g1 : Gl X "dict") (m1 : X.mg "dict" = none) (g2 : Gl X "zip") (m2 : X.mg "zip" = none) (ha : PE X e ta) (hb : PE X e2 tb)
    (s1 : starEach [e, e2] X.env = (false, eval e X.env) :: starEach [e2] X.env) (s2 : starEach [e2] X.env = (false, eval e2 X.env) :: starEach [] X.env) :
    PE X (.Call (.Name "dict" p) [.Call (.Name "zip" p2) [e, e2] [] q] [] pos) (tOp (rDzip X.K) ta tb) := by
  refine ⟨fun pins s σ H Q I h => ?_⟩
  refine PyProof.Rows.Call_ (ld_blt I g1 m1 PyProof.Rows.boot_dict (PyProof.Rows.callWith_type1 (PyProof.Rows.args_cons ?_ rfl) rfl rfl))
  refine PyProof.Rows.Call_ (ld_blt I g2 m2 PyProof.Rows.boot_zip (PyProof.Rows.callWith_type1 (PyProof.Rows.args_cons (thn (ha.run pins s σ H _ I h) fun v s1 ⟨x, H1, I1, r1, q1⟩ => PyProof.Rows.args_cons (thn (hb.run pins s1 σ H1 _ I1 q1) fun u s2 ⟨y, H2, I2, r2, q2⟩ => PyProof.Rows.args_nil ?_) s2) s1) s1 (by rw [s2]; rfl)))
  obtain ⟨t1, t2, a, b, ks, ys, rfl, rfl, sa, sb, few, fin⟩ := q2
  cases r1
  cases r2
  obtain ⟨its, rv, pa, la⟩ := seqB_of I2 sa
  obtain ⟨its2, rv2, pb, lb⟩ := seqB_of I2 sb
  refine zip_begins2 (beginsB t1 a its.toArray) (beginsB t2 b its2.toArray) pa pb fun h' hz hTI hTO h1 h2 hsz hk => PyProof.Rows.args_nil ?_
  have I3 : Inv X pins σ H2 { s2 with heap := h' } := I2.kept (t' := s2.toks) hk
  have S := sep_new s2.heap.objs.size a b la lb
  have hst := rv.strs
  have kl : its.length = ks.length := by have := rv.length; simpa using this.symm
  have e1 : (min its.toArray.size its2.toArray.size) = (ks.zip its2).length := by rw [List.length_zip, List.size_toArray, List.size_toArray, kl]
  refine PySem.call_dict_pairs (s := { s2 with heap := h' }) (knd := mixKind X.prog X.w) (kvs := (ks.zip its2).map fun q => ((.inr q.1 : Key), q.2)) (pairsZ t1 t2 _ _ _ _ _ a b S (Nat.ne_of_lt la) (Nat.ne_of_lt (Nat.lt_succ_of_lt lb)) its.toArray its2.toArray) (I3.ok.hd hc)
    ⟨hz, hTI, ⟨_, _, hTO⟩, itrB_new h1, itrB_new h2, seqB_at pa fun o e => hk _ o e, seqB_at pb fun o e => hk _ o e⟩ ⟨by rw [List.length_map, e1], fun i key v hr => ?_⟩ (by rw [e1, List.length_zip]; omega) fun h2 tk hd kp => ?_
  · obtain ⟨r1, r2⟩ := hr
    have r1 : its[i]? = some key := by simpa using r1
    have r2 : its2[i]? = some v := by simpa using r2
    obtain ⟨t, et⟩ := SS.strs_at hst i key r1
    have lt : i < ks.length := by
      rw [← kl]
      exact (List.getElem?_eq_some_iff.mp r1).1
    have ek : ks[i]? = some (ks.getD i Str.empty) := by
      rw [List.getD_eq_getElem?_getD, List.getElem?_eq_getElem lt]; rfl
    refine ⟨.inr (ks.getD i Str.empty), ?_, ?_⟩
    · rw [List.getElem?_map, List.getElem?_zip_eq_some (z := (ks.getD i Str.empty, v)) |>.mpr ⟨ek, r2⟩]; rfl
    · subst et
      exact kV_is (show RelV (kV (.inr (ks.getD i Str.empty))) _ from ⟨t, rfl⟩)
  · have big : (h'.objs.size == sysModules) = false := beq_eq_false_iff_ne.mpr (Nat.ne_of_gt I3.big)
    have rel : KV (kvsZ ks ys) ((ks.zip its2).map fun q => ((.inr q.1 : Key), q.2)) := kvZ rv2
    have hlen : (mergeK [] (kvsZ ks ys)).length ≤ sizeLine := by
      refine Nat.le_trans (length_mergeK _ []) ?_
      unfold kvsZ
      rw [List.length_nil, Nat.zero_add, List.length_map, List.length_zip]
      omega
    refine ⟨.ref h'.objs.size, upd H2 h'.objs.size (.dK (mergeK [] (kvsZ ks ys))), ?_, rfl, fin _ (I3.hok.fresh (Nat.le_refl _))⟩
    have fr : ∀ c, c ∈ [s2.heap.objs.size + 4, s2.heap.objs.size + 3, s2.heap.objs.size, s2.heap.objs.size + 1] → FpOk X pins H2 c := fun c hcm => by
      have e' : c = s2.heap.objs.size + 4 ∨ c = s2.heap.objs.size + 3 ∨ c = s2.heap.objs.size ∨ c = s2.heap.objs.size + 1 := by simpa using hcm
      have hle : s2.heap.objs.size ≤ c := by
        rcases e' with z | z | z | z <;> rw [z] <;> omega
      exact I2.fpOk hle (I2.hok.fresh hle)
    exact (I3.turnedNew (ch := [s2.heap.objs.size + 4, s2.heap.objs.size + 3, s2.heap.objs.size, s2.heap.objs.size + 1]) (t' := tk) (fun b o hb q => kp b o hb q) fr (Nat.le_refl _) (show ObjOk X.prog X.w _ _ _ (.dK (mergeK [] (kvsZ ks ys))) from ⟨hlen, big, merged [] _, KV.merge rel .nil, hd⟩))
end
section
variable {K : PySem.W.Frag}
theorem RpKV.zip {H : Hp} : ∀ {ks : List Str} {ys : List V} {ds : List D}, (∀ x ∈ ks, PyData.strOk x = true ∧ x.length ≤ sizeLine) → RpAll K H ys ds → RpKV K H (kvsZ ks ys) ((ks.zip ds).map fun p => (.str p.1, p.2))
  | [], _, _, _, _ => .nil
  | _ :: _, _, _, _, .nil => .nil
  | k :: ks, _, _, h, .cons r rs => .cons (h k List.mem_cons_self).2 (h k List.mem_cons_self).1 r (RpKV.zip (fun x hx => h x (List.mem_cons_of_mem _ hx)) rs)
theorem seq_rl {H : Hp} {Ps : List Addr} {b : Bool} {v : V} {d : D} {xs : List D} (h : RL K H Ps b v d) (e : seqOf d = .ok xs) : ∃ t a vs, v = .ref a ∧ SqB t K H a vs ∧ RpAll K (hide H Ps) vs xs ∧ xs.length ≤ sizeLine := by
  cases d with
  | list ds =>
    cases e
    obtain ⟨a, vs, rfl, e1, r, z⟩ := h.list
    exact ⟨false, a, vs, rfl, SqL.of e1, r, z⟩
  | tuple ds =>
    cases e
    obtain ⟨a, vs, rfl, e1, r, z⟩ := h.tuple
    exact ⟨true, a, vs, rfl, e1, r, z⟩
  | _ => cases e
theorem r_dzip : R2ok K dzipD (rDzip K) := by
  intro v w H Ps d e x b c Q dom h1 h2 hx q
  unfold dzipD at hx
  cases e1 : seqOf d with
  | ok xs =>
    cases e2 : seqOf e with
    | ok ys =>
      rw [e1, e2] at hx
      simp only [bind_ok] at hx
      cases hs : strsD xs with
      | none => rw [hs] at hx; cases hx
      | some ks =>
        rw [hs] at hx
        cases hx
        obtain ⟨t1, a, vs, rfl, sa, ra, za⟩ := seq_rl h1 e1
        obtain ⟨t2, b', us, rfl, sb, rb, zb⟩ := seq_rl h2 e2
        obtain ⟨b1, b2⟩ := strs_of ra hs
        subst b1
        have kl : ks.length = xs.length := by have := ra.length; simpa using this
        refine ⟨t1, t2, a, b', ks, us, rfl, rfl, sa, sb, by rw [kl]; exact za, fun p hp => q _ _ (same_upd hp) ?_⟩
        have m := (RpKV.zip (strs_len ra hs) rb).merge (acc := []) (dacc := []) .nil
        have hlen : (mergeD [] (ks.zip ys)).length ≤ sizeLine := by
          rw [← m.length]
          refine Nat.le_trans (length_mergeK _ []) ?_
          unfold kvsZ
          rw [List.length_nil, Nat.zero_add, List.length_map, List.length_zip]
          omega
        exact .dct (.inl (by rw [hide_out (not_hid dom hp), upd_same])) (m.mono (hide_mono (same_upd hp) Ps)) hlen
    | exc _ _ => rw [e1, e2] at hx; cases hx
    | bad => rw [e1, e2] at hx; cases hx
  | exc _ _ => rw [e1] at hx; cases hx
  | bad => rw [e1] at hx; cases hx
/-! ### the place of a text in a list -/
theorem place_at {x : Str} : ∀ {xs : List Str} {i : Nat}, placeS x xs = some i → xs[i]? = some x ∧ ∀ (m : Nat) (y : Str), m < i → xs[m]? = some y → y ≠ x
  | [], _, h => by cases h
  | y :: r, i, h => by
    have h : (if y = x then some 0 else (placeS x r).map (· + 1)) = some i := h
    by_cases e : y = x
    · rw [if_pos e] at h
      cases h
      exact ⟨by rw [e]; rfl, fun m z hm => by omega⟩
    · rw [if_neg e] at h
      cases q : placeS x r with
      | none => rw [q] at h; cases h
      | some j =>
        rw [q] at h
        cases h
        obtain ⟨h1, h2⟩ := place_at q
        refine ⟨by simpa using h1, fun m z hm hz => ?_⟩
        cases m with
        | zero => simp at hz; rw [← hz]; exact e
        | succ m => exact h2 m z (by have hm : m + 1 < j + 1 := hm; omega) (by simpa using hz)
def rIdxS (K : PySem.W.Frag) : V → List V → Hp → VK → Prop := fun x vs H Q => ∃ (a : Addr) (xs : List Str) (y : Str) (i : Nat), x = .ref a ∧ vs = [.str y] ∧ SqL K H a (xs.map V.str) ∧ placeS y xs = some i ∧ Q (.int (i : Nat)) H
theorem mt_idxS {X : Cx} : MtR X "list.index" (rIdxS X.K) := by
  intro pins s σ H x xs v us Q I rx rxs h
  obtain ⟨a, ks, y, i, e1, e2, sq, hp, q⟩ := h
  obtain ⟨h1, h2⟩ := place_at hp
  refine mt_index pins s σ H x xs v us Q I rx rxs ⟨a, ks.map V.str, .str y, i, .str y, e1, e2, sq, rfl, ?_, by rw [List.getElem?_map, h1]; rfl, ?_, fun m z hm hz => ?_, q⟩
  · rw [List.all_eq_true]
    intro z hz
    obtain ⟨k, _, rfl⟩ := List.mem_map.mp hz
    rfl
  · simp [eqV]
  · rw [List.getElem?_map] at hz
    cases hk : ks[m]? with
    | none => rw [hk] at hz; cases hz
    | some k =>
      rw [hk] at hz
      cases hz
      have := h2 m k hm hk
      simp [eqV, this]
end
end Tq

/-! Tq, part O: tuple(zip(a, b)). -/
namespace Tq
open PySem L2 Res
theorem zip_len0 : typeLookup (.type "zip") "__len__" = pure none := am_miss_of_fast (by decide +kernel)
theorem zip_hint0 : typeLookup (.type "zip") "__length_hint__" = pure none := am_miss_of_fast (by decide +kernel)
/-- between two turns -/
def ZS (t1 t2 : Bool) (z TI TO i1 i2 a b L : Addr) (i : Nat) (h : Heap) : Prop := IsTupOf2 h TI (.ref i1) (.ref i2) ∧ ItrB t1 h i1 a i ∧ ItrB t2 h i2 b i ∧
  ((IsZip h z TI TO .none ∧ ∃ u v, IsTupOf2 h TO u v) ∨ ∃ T f oT, IsZipHeld h z TI TO T f ∧ h.get? T = some oT ∧ T ≠ z ∧ T ≠ i1 ∧ T ≠ i2 ∧ T ≠ L)
theorem ZS.zip {t1 t2 : Bool} {z TI TO i1 i2 a b L : Addr} {i : Nat} {h : Heap} (q : ZS t1 t2 z TI TO i1 i2 a b L i h) : ∃ o, h.get? z = some o ∧ o.cls = .type "zip" := by
  obtain ⟨_, _, _, ⟨q, _⟩ | ⟨T, f, oT, q, _⟩⟩ := q
  · exact ⟨_, q, rfl⟩
  · exact ⟨_, q, rfl⟩
theorem ZS.at {t1 t2 : Bool} {z TI TO i1 i2 a b L : Addr} {i : Nat} {h h' : Heap} (n : L ≠ z ∧ L ≠ TI ∧ L ≠ TO ∧ L ≠ i1 ∧ L ≠ i2) (q : ZS t1 t2 z TI TO i1 i2 a b L i h) (k : ∀ b o, b ≠ L → h.get? b = some o → h'.get? b = some o) : ZS t1 t2 z TI TO i1 i2 a b L i h' := by
  obtain ⟨q1, q2, q3, q4⟩ := q
  refine ⟨k _ _ (Ne.symm n.2.1) q1, itrB_at q2 fun o e => k _ o (Ne.symm n.2.2.2.1) e, itrB_at q3 fun o e => k _ o (Ne.symm n.2.2.2.2) e, ?_⟩
  rcases q4 with ⟨y, u, v, y2⟩ | ⟨T, f, oT, y, y2, r1, r2, r3, r4⟩
  · exact .inl ⟨k _ _ (Ne.symm n.1) y, u, v, k _ _ (Ne.symm n.2.2.1) y2⟩
  · exact .inr ⟨T, f, oT, k _ _ (Ne.symm n.1) y, k _ _ r4 y2, r1, r2, r3, r4⟩
abbrev lstO (acc : Array Value) (c : Nat) : Obj := { cls := .type "list", dict := none, data := .seq acc c, slots := #[] }
/-- the tuples made so far -/
def Made (H0 H : Hp) (xs ys : List V) (Ts : List Addr) : Prop := ∀ (j : Nat) (T : Addr), Ts[j]? = some T → H0 T = none ∧ ∃ o x y, H T = some (.frz o (.tup [x, y])) ∧ o.dict = none ∧ xs[j]? = some x ∧ ys[j]? = some y
theorem Made.mono {H0 H H' : Hp} {xs ys : List V} {Ts : List Addr} (h : Made H0 H xs ys Ts) (s : Same H H') : Made H0 H' xs ys Ts := fun j T e => by
  obtain ⟨h0, o, x, y, h1, h2⟩ := h j T e
  exact ⟨h0, o, x, y, s _ _ h1, h2⟩
theorem sqB_mono {t : Bool} {K : PySem.W.Frag} {H H' : Hp} {a : Addr} {xs : List V} (s : Same H H') (h : SqB t K H a xs) : SqB t K H' a xs := by
  cases t with
  | true => exact seqT s h
  | false => exact s.seq h
section
variable {X : Cx} {pins : List (Addr × Obj)} {σ : St} {A : Around} {R : Result → Shared → Prop} {t1 t2 : Bool} {z TI TO i1 i2 a b L : Addr} {xs ys : List V}
theorem zloop {H0 : Hp} (nh : A.handled = none) (S : ZipSep2 z TI TO i1 i2 [i1, a] [i2, b]) (ni1 : a ≠ i1) (ni2 : b ≠ i2) (nl : L ≠ z ∧ L ≠ TI ∧ L ≠ TO ∧ L ≠ i1 ∧ L ≠ i2) (res : Value) (hn : min xs.length ys.length ≤ sizeLine) :
    ∀ (m i : Nat) (s : Shared) (H : Hp) (Ts : List Addr) (acc : Array Value) (c : Nat), min xs.length ys.length - i = m → i ≤ min xs.length ys.length → Inv X pins σ H s → SqB t1 X.K H a xs → SqB t2 X.K H b ys → ZS t1 t2 z TI TO i1 i2 a b L i s.heap →
      s.heap.get? L = some (lstO acc c) → acc.toList = Ts.map Value.ref → Ts.length = i → Made H0 H xs ys Ts → Same H0 H → (∀ e ∈ [z, TI, TO, i1, i2, L], FpOk X pins H e) → TO < s.heap.objs.size →
      (∀ s' H' Ts' acc' c', Inv X pins σ H' s' → Same H H' → s'.heap.get? L = some (lstO acc' c') → acc'.toList = Ts'.map Value.ref → Ts'.length = min xs.length ys.length → Made H0 H' xs ys Ts' → R (.ok (.ret res)) s') →
      codeAny (model X.prog X.w) A (.builtin "list.extend.loop" ⟨[.ref L, .ref z, res], []⟩) R s := by
  intro m
  induction m with
  | zero =>
    intro i s H Ts acc c em le I sa sb zs hL eacc lT mk sm0 fp lTO fin
    have ei : i = min xs.length ys.length := by omega
    obtain ⟨its, rv, pa, _⟩ := seqB_of I sa
    obtain ⟨its2, rv2, pb, _⟩ := seqB_of I sb
    have l1 := rv.length
    have l2 := rv2.length
    have D1 := drawsB (prog := X.prog) (w := X.w) (A := A.in1.in1) t1 (show A.in1.in1.handled = none from nh) i1 a ni1 its.toArray
    have D2 := drawsB (prog := X.prog) (w := X.w) (A := A.in1.in1) t2 (show A.in1.in1.handled = none from nh) i2 b ni2 its2.toArray
    refine codeAny_builtin PySem.F.entry_extend_loop ?_
    rw [Around.under_plainId PySem.F.plain_extend_loop _]
    show wpAny _ A.in1 (pyNext (.ref z) >>= _) _ _ s
    have done : ∀ h' tk, (∀ c o, c ∉ [z, TI, TO, i1, i2] → s.heap.get? c = some o → h'.get? c = some o) → R (.ok (.ret res)) { s with heap := h', toks := tk } := fun h' tk hk => by
      have I2 : Inv X pins σ H { s with heap := h', toks := tk } := I.turnedL (ch := [z, TI, TO, i1, i2]) hk fun e he => fp e (by
        have he : e = z ∨ e = TI ∨ e = TO ∨ e = i1 ∨ e = i2 := by simpa using he
        rcases he with q | q | q | q | q <;> simp [q])
      exact fin _ H Ts acc c I2 (Same.refl _) (hk L _ (by simp; exact nl) hL) eacc (by rw [lT, ei]) mk
    obtain ⟨y1, y2, y3, y4⟩ := zs
    have e1 : i ≤ its.toArray.size := by simp; omega
    have e2 : i ≤ its2.toArray.size := by simp; omega
    have e3 : i = its.toArray.size ∨ i = its2.toArray.size := by simp; omega
    rcases y4 with ⟨q, u, v, q2⟩ | ⟨T, f, oT, q, q2, r1, r2, r3, r4⟩
    · exact wpAny_bind (wpAny_pyNext_zipD2_end S D1 D2 q y1 q2 ⟨y2, pa⟩ ⟨y3, pb⟩ e1 e2 e3 fun h' tk hk => wpAny_pure (done h' tk fun c o hc e => hk c o (fun x => hc (by simp [x])) (fun x => hc (by simp [x])) (fun x => hc (by simp [x])) (fun x => hc (by simp [x])) e))
    · exact wpAny_bind (outZ_stop S D1 D2 q q2 y1 ⟨y2, pa⟩ ⟨y3, pb⟩ e1 e2 e3 fun h' tk hk => wpAny_pure (done h' tk fun c o hc e => hk c o (fun x => hc (by simp [x])) (fun x => hc (by simp [x])) (fun x => hc (by simp [x])) e))
  | succ m ih =>
    intro i s H Ts acc c em le I sa sb zs hL eacc lT mk sm0 fp lTO fin
    obtain ⟨its, rv, pa, _⟩ := seqB_of I sa
    obtain ⟨its2, rv2, pb, _⟩ := seqB_of I sb
    have l1 := rv.length
    have l2 := rv2.length
    have lt1 : i < its.toArray.size := by simp; omega
    have lt2 : i < its2.toArray.size := by simp; omega
    have D1 := drawsB (prog := X.prog) (w := X.w) (A := A.in1.in1) t1 (show A.in1.in1.handled = none from nh) i1 a ni1 its.toArray
    have D2 := drawsB (prog := X.prog) (w := X.w) (A := A.in1.in1) t2 (show A.in1.in1.handled = none from nh) i2 b ni2 its2.toArray
    have las : acc.size = i := by rw [← Array.length_toList, eacc, List.length_map, lT]
    refine codeAny_builtin PySem.F.entry_extend_loop ?_
    rw [Around.under_plainId PySem.F.plain_extend_loop _]
    show wpAny _ A.in1 (pyNext (.ref z) >>= _) _ _ s
    -- one more tuple
    have more : ∀ x1 x2 h' tk, its.toArray[i]? = some x1 → its2.toArray[i]? = some x2 → IsTupOf2 h' s.heap.objs.size x1 x2 → ZS t1 t2 z TI TO i1 i2 a b L (i + 1) h' → (∀ c o, c ∉ [z, TI, TO, i1, i2] → s.heap.get? c = some o → h'.get? c = some o) →
        wpAny (model X.prog X.w) A.in1 (updateSeq L (·.push (.ref s.heap.objs.size)) >>= fun _ => again (.builtin "list.extend.loop" ⟨[.ref L, .ref z, res], []⟩)) (fun r s' => match r with | .done f => R (.ok f) s' | .again c' => c'.quiet = true ∧ codeAny (model X.prog X.w) A c' R s') (fun e s' => R (.error e) s') { s with heap := h', toks := tk } := fun x1 x2 h' tk e1 e2 hT zs' hk => by
      have q1 : its[i]? = some x1 := by simpa using e1
      have q2 : its2[i]? = some x2 := by simpa using e2
      obtain ⟨x, hx⟩ : ∃ x, xs[i]? = some x := ⟨xs[i]'(by omega), List.getElem?_eq_getElem (by omega)⟩
      obtain ⟨y, hy⟩ : ∃ y, ys[i]? = some y := ⟨ys[i]'(by omega), List.getElem?_eq_getElem (by omega)⟩
      obtain ⟨u, hu, rx⟩ := rv.get hx
      obtain ⟨u2, hu2, ry⟩ := rv2.get hy
      rw [q1] at hu
      rw [q2] at hu2
      cases hu
      cases hu2
      let ob : Obj := { cls := .type "tuple", data := .seq #[x1, x2] }
      have new : ObjOk X.prog X.w (upd H s.heap.objs.size (.frz ob (.tup [x, y]))) h' s.heap.objs.size (.frz ob (.tup [x, y])) :=
        ⟨hT, by show 2 ≤ sizeLine; decide, [x1, x2], .cons rx (.cons ry .nil), ⟨_, hT, rfl, _, rfl⟩⟩
      have fr : H s.heap.objs.size = none := I.hok.fresh (Nat.le_refl _)
      have I1 : Inv X pins σ (upd H s.heap.objs.size (.frz ob (.tup [x, y]))) { s with heap := h', toks := tk } := I.turnedNew (ch := [z, TI, TO, i1, i2]) hk (fun e he => fp e (by
        have he : e = z ∨ e = TI ∨ e = TO ∨ e = i1 ∨ e = i2 := by simpa using he
        rcases he with q | q | q | q | q <;> simp [q])) (Nat.le_refl _) new
      have sm : Same H (upd H s.heap.objs.size (.frz ob (.tup [x, y]))) := same_upd fr
      have hL1 : h'.get? L = some (lstO acc c) := hk L _ (by simp; exact nl) hL
      have ltL : L < s.heap.objs.size := Heap.lt_size hL
      have ltT : s.heap.objs.size < h'.objs.size := Heap.lt_size hT
      have fp1 : ∀ e ∈ [z, TI, TO, i1, i2, L], FpOk X pins (upd H s.heap.objs.size (.frz ob (.tup [x, y]))) e := fun e he => by
        obtain ⟨f0, f1⟩ := fp e he
        refine ⟨?_, f1⟩
        have q : e ≠ s.heap.objs.size := fun q => by
          have he : e = z ∨ e = TI ∨ e = TO ∨ e = i1 ∨ e = i2 ∨ e = L := by simpa using he
          have lz : z < s.heap.objs.size := by
            obtain ⟨_, g, _⟩ := zs.zip
            exact Heap.lt_size g
          obtain ⟨y1, y2, y3, y4⟩ := zs
          have lTI : TI < s.heap.objs.size := Heap.lt_size y1
          have li1 : i1 < s.heap.objs.size := by obtain ⟨_, g, _⟩ := itrB_obj y2; exact Heap.lt_size g
          have li2 : i2 < s.heap.objs.size := by obtain ⟨_, g, _⟩ := itrB_obj y3; exact Heap.lt_size g
          rcases he with w | w | w | w | w | w <;> rw [w] at q <;> first | exact Nat.lt_irrefl _ (q ▸ lz) | exact Nat.lt_irrefl _ (q ▸ lTI) | exact Nat.lt_irrefl _ (q ▸ lTO) | exact Nat.lt_irrefl _ (q ▸ li1) | exact Nat.lt_irrefl _ (q ▸ li2) | exact Nat.lt_irrefl _ (q ▸ ltL)
        rw [upd_ne q]; exact f0
      refine wpAny_bind (wpAny_updateSeq (s := { s with heap := h', toks := tk }) hL1 rfl ?_ (by rw [las]; omega) (by show (acc.push _).size ≤ sizeLine + 1; rw [Array.size_push, las]; omega))
      have oth : ∀ b o, b ≠ L → h'.get? b = some o → (h'.update L (Obj.mapSeq (·.push (.ref s.heap.objs.size)))).get? b = some o := fun b o hb e => (Heap.get?_update_other _ _ (Ne.symm hb)).trans e
      have I2 : Inv X pins σ (upd H s.heap.objs.size (.frz ob (.tup [x, y]))) { s with heap := h'.update L (Obj.mapSeq (·.push (.ref s.heap.objs.size))), toks := tk } := L2.Inv.turnedL (s := { s with heap := h', toks := tk }) (ch := [L]) I1 (fun c o hc e => oth c o (by simpa using hc) e) fun e he => fp1 e (by
        have he : e = L := by simpa using he
        simp [he])
      have hTn : (h'.update L (Obj.mapSeq (·.push (.ref s.heap.objs.size)))).get? s.heap.objs.size = some _ := oth _ _ (Nat.ne_of_gt ltL) hT
      refine wpAny_pure ⟨plainId_quiet PySem.F.plain_extend_loop _, ih (i + 1) _ (upd H s.heap.objs.size (.frz ob (.tup [x, y]))) (Ts ++ [s.heap.objs.size]) (acc.push (.ref s.heap.objs.size)) _ (by omega) (by omega) I2 (sqB_mono sm sa) (sqB_mono sm sb) (ZS.at nl zs' oth) (Heap.get?_update_self _ hL1 rfl) (by simp [eacc]) (by simp [lT]) ?_ (sm0.trans sm) fp1 (Nat.lt_trans lTO (Heap.lt_size hTn)) fun s' H' Ts' acc' c' i1 i2 i3 i4 i5 i6 => fin s' H' Ts' acc' c' i1 (sm.trans i2) i3 i4 i5 i6⟩
      intro j T e
      by_cases hj : j < Ts.length
      · rw [List.getElem?_append_left hj] at e
        exact (mk.mono sm) j T e
      · have : j = i := by
          have := (List.getElem?_eq_some_iff.mp e).1
          simp at this
          omega
        subst this
        rw [List.getElem?_append_right (by omega)] at e
        simp [lT] at e
        subst e
        refine ⟨?_, ob, x, y, upd_same, rfl, hx, hy⟩
        cases e0 : H0 s.heap.objs.size with
        | none => rfl
        | some w => rw [sm0 _ _ e0] at fr; cases fr
    obtain ⟨y1, y2, y3, y4⟩ := id zs
    have m1 : s.heap.objs.size ≠ i1 := by obtain ⟨_, e, _⟩ := itrB_obj y2; exact Nat.ne_of_gt (Heap.lt_size e)
    have m2 : s.heap.objs.size ≠ i2 := by obtain ⟨_, e, _⟩ := itrB_obj y3; exact Nat.ne_of_gt (Heap.lt_size e)
    have ltL : s.heap.objs.size ≠ L := Nat.ne_of_gt (Heap.lt_size hL)
    rcases y4 with ⟨q, u, v, q2⟩ | ⟨T, f, oT, q, q2, r1, r2, r3, r4⟩
    · refine wpAny_bind (wpAny_pyNext_zipD2_item S D1 D2 q y1 q2 ⟨y2, pa⟩ ⟨y3, pb⟩ lt1 lt2 fun x1 x2 h' tk p1 p2 z1 T1 n1 n2 T2 sz hk => ?_)
      exact more x1 x2 h' tk p1 p2 T2 ⟨hk _ _ S.TIz S.TITO S.TIi1 S.TIi2 y1, n1.1, n2.1, .inr ⟨s.heap.objs.size, false, _, z1, T2, Nat.ne_of_gt (Heap.lt_size q), m1, m2, ltL⟩⟩ fun c o hc e => hk c o (fun x => hc (by simp [x])) (fun x => hc (by simp [x])) (fun x => hc (by simp [x])) (fun x => hc (by simp [x])) e
    · refine wpAny_bind (outZ_next S D1 D2 q q2 y1 ⟨y2, pa⟩ ⟨y3, pb⟩ lt1 lt2 fun x1 x2 h' tk p1 p2 z1 n1 n2 T2 hk => ?_)
      exact more x1 x2 h' tk p1 p2 T2 ⟨hk _ _ S.TIz S.TIi1 S.TIi2 y1, n1.1, n2.1, .inr ⟨T, true, oT, z1, hk _ _ r1 r2 r3 q2, r1, r2, r3, r4⟩⟩ fun c o hc e => hk c o (fun x => hc (by simp [x])) (fun x => hc (by simp [x])) (fun x => hc (by simp [x])) e
/-- all of them, in one list -/
theorem zcollect {E : Value → Shared → Prop} {s : Shared} {H : Hp} {Q : List Value → Shared → Prop} (nh : A.handled = none) (S : ZipSep2 z TI TO i1 i2 [i1, a] [i2, b]) (ni1 : a ≠ i1) (ni2 : b ≠ i2) (hn : min xs.length ys.length ≤ sizeLine)
    (I : Inv X pins σ H s) (sa : SqB t1 X.K H a xs) (sb : SqB t2 X.K H b ys) (hz : IsZip s.heap z TI TO .none) (hTI : IsTupOf2 s.heap TI (.ref i1) (.ref i2)) (hTO : ∃ u v, IsTupOf2 s.heap TO u v) (h1 : ItrB t1 s.heap i1 a 0) (h2 : ItrB t2 s.heap i2 b 0)
    (fp : ∀ e ∈ [z, TI, TO, i1, i2], FpOk X pins H e)
    (fin : ∀ s' H' Ts, Inv X pins σ H' s' → Same H H' → Ts.length = min xs.length ys.length → Made H H' xs ys Ts → Q (Ts.map Value.ref) s') : wpAny (model X.prog X.w) A (collect (.ref z)) Q E s := by
  obtain ⟨u, v, hTO⟩ := hTO
  let L := s.heap.objs.size
  let g := s.heap.push (lstO #[] 0)
  have eg : s.heap.push { cls := .type "list", data := .seq ([] : List Value).toArray } = g := rfl
  have up : ∀ b o, s.heap.get? b = some o → g.get? b = some o := fun b o e => Heap.get?_push_of_some _ e
  have nl : L ≠ z ∧ L ≠ TI ∧ L ≠ TO ∧ L ≠ i1 ∧ L ≠ i2 := by
    obtain ⟨_, q1, _⟩ := itrB_obj h1
    obtain ⟨_, q2, _⟩ := itrB_obj h2
    exact ⟨Nat.ne_of_gt (Heap.lt_size hz), Nat.ne_of_gt (Heap.lt_size hTI), Nat.ne_of_gt (Heap.lt_size hTO), Nat.ne_of_gt (Heap.lt_size q1), Nat.ne_of_gt (Heap.lt_size q2)⟩
  have I1 : Inv X pins σ H { s with heap := g } := I.kept (t' := s.toks) up
  have fpL : FpOk X pins H L := I.fpOk (Nat.le_refl _) (I.hok.fresh (Nat.le_refl _))
  have hz1 := up _ _ hz
  have ty : ({ s with heap := g } : Shared).TypeIs (.ref z) "zip" := ⟨_, hz1, rfl⟩
  unfold collect
  refine wpAny_bind (wpAny_runValue (codeAny_builtin PySem.F.entry_proto_collect ?_))
  rw [Around.under_plainId PySem.F.plain_proto_collect _]
  show wpAny _ A.in1 (newList [] >>= fun q => again (.builtin "list.__iadd__" ⟨[q, .ref z], []⟩)) _ _ s
  refine wpAny_bind (wpAny_newObj_type ?_)
  refine wpAny_pure ⟨plainId_quiet PySem.F.plain_list_iadd _, codeAny_builtin PySem.F.entry_list_iadd ?_⟩
  rw [Around.under_plainId PySem.F.plain_list_iadd _]
  show wpAny _ A.in1 (Builtin.List.listExtendWith (.ref L) (.ref z) (.ref L)) _ _ { s with heap := g }
  unfold Builtin.List.listExtendWith
  refine wpAny_bind (wpAny_typeOf ty ?_)
  have n1 : Builtin.List.listSameRef (.ref L) (.ref z) = false := by simp [Builtin.List.listSameRef, nl.1]
  have n2 : (Value.type "zip" == Value.type "list") = false := by decide
  have n3 : (Value.type "zip" == Value.type "tuple") = false := by decide
  simp only [n1, n2, n3, Bool.or_false, Bool.false_eq_true, if_false]
  refine wpAny_bind (wpAny_pyIter_zip hz1 ?_)
  refine wpAny_bind (wpAny_holding ?_)
  unfold Builtin.List.listLengthHint
  refine wpAny_bind (wpAny_specialOf ty zip_len0 ?_)
  show wpAny _ A.in1 (specialOf (Value.ref z) (Str.ofString "__length_hint__") >>= _) _ _ _
  refine wpAny_bind (wpAny_specialOf ty zip_hint0 (wpAny_pure ?_))
  show wpAny _ A.in1 (rule "list.extend.makes-room" >>= fun _ => Builtin.List.listTouch (.ref L) >>= fun _ => again (.builtin "list.extend.loop" ⟨[.ref L, .ref z, .ref L], []⟩)) _ _ _
  refine wpAny_bind (wpAny_rule (wpAny_bind ?_))
  have g1 : g.get? L = some (lstO #[] 0) := Heap.get?_push_size _ rfl
  show wpAny _ A.in1 (updateSeq L (·.push .none) >>= fun _ => updateSeq L (·.pop)) _ _ _
  refine wpAny_bind (wpAny_updateSeq g1 rfl ?_)
  have g2 := Heap.get?_update_self (Obj.mapSeq (·.push Value.none)) g1 rfl
  refine wpAny_updateSeq g2 rfl ?_
  have g3 := Heap.get?_update_self (Obj.mapSeq (·.pop)) g2 rfl
  have oth : ∀ b o, b ≠ L → g.get? b = some o → ((g.update L (Obj.mapSeq (·.push Value.none))).update L (Obj.mapSeq (·.pop))).get? b = some o :=
    fun b o hb e => (Heap.get?_update_other _ _ (Ne.symm hb)).trans ((Heap.get?_update_other _ _ (Ne.symm hb)).trans e)
  have I2 : Inv X pins σ H { s with heap := (g.update L (Obj.mapSeq (·.push Value.none))).update L (Obj.mapSeq (·.pop)) } := L2.Inv.turnedL (s := { s with heap := g }) (t' := s.toks) (ch := [L]) I1 (fun c o hc e => oth c o (by simpa using hc) e) fun e he => by
    have he : e = L := by simpa using he
    rw [he]; exact fpL
  have zs : ZS t1 t2 z TI TO i1 i2 a b L 0 g := ⟨up _ _ hTI, itrB_at h1 fun o e => up _ o e, itrB_at h2 fun o e => up _ o e, .inl ⟨hz1, u, v, up _ _ hTO⟩⟩
  refine wpAny_pure ⟨plainId_quiet PySem.F.plain_extend_loop _, zloop (H0 := H) nh S ni1 ni2 nl _ hn _ 0 _ H [] #[] _ rfl (Nat.zero_le _) I2 sa sb (ZS.at nl zs oth) g3 rfl rfl (fun j T e => by simp at e) (Same.refl _) (fun e he => ?_) ?_ fun s' H' Ts' acc' c' j1 j2 j3 j4 j5 j6 => ?_⟩
  · have he : e = z ∨ e = TI ∨ e = TO ∨ e = i1 ∨ e = i2 ∨ e = L := by simpa using he
    rcases he with q | q | q | q | q | q
    · exact fp e (by simp [q])
    · exact fp e (by simp [q])
    · exact fp e (by simp [q])
    · exact fp e (by simp [q])
    · exact fp e (by simp [q])
    · rw [q]; exact fpL
  · exact Heap.lt_size (oth _ _ (Ne.symm nl.2.2.1) (up _ _ hTO))
  · show wpAny _ A (load L >>= _) _ _ s'
    refine wpAny_bind (wpAny_load j3 (wpAny_pure ?_))
    show Q acc'.toList s'
    rw [j4]
    exact fin s' H' Ts' j1 j2 j5 j6
/-- tuple(..) of it -/
theorem ztuple {E : Value → Shared → Prop} {s : Shared} {H : Hp} {Q : Value → Shared → Prop} (nh : A.handled = none) (S : ZipSep2 z TI TO i1 i2 [i1, a] [i2, b]) (ni1 : a ≠ i1) (ni2 : b ≠ i2) (hn : min xs.length ys.length ≤ sizeLine)
    (I : Inv X pins σ H s) (sa : SqB t1 X.K H a xs) (sb : SqB t2 X.K H b ys) (hz : IsZip s.heap z TI TO .none) (hTI : IsTupOf2 s.heap TI (.ref i1) (.ref i2)) (hTO : ∃ u v, IsTupOf2 s.heap TO u v) (h1 : ItrB t1 s.heap i1 a 0) (h2 : ItrB t2 s.heap i2 b 0)
    (fp : ∀ e ∈ [z, TI, TO, i1, i2], FpOk X pins H e)
    (fin : ∀ s' H' Ts, Inv X pins σ H' s' → Same H H' → Ts.length = min xs.length ys.length → Made H H' xs ys Ts → Q (.ref s'.heap.objs.size) { s' with heap := s'.heap.push { cls := .type "tuple", data := .seq (Ts.map Value.ref).toArray } }) :
    wpAny (model X.prog X.w) A (call (.type "tuple") [.ref z]) Q E s := by
  refine callType_codes (Q₁ := fun obj s₁ => s₁.TypeIs obj "tuple" ∧ Q obj s₁) PySem.F.called_tuple (PySem.F.typeCall_tuple_1 _) PySem.F.entry_object_init ?_ fun obj s₁ q => ⟨q.1, PySem.F.args_object_init_2 obj _, object_init_meets PySem.F.called_tuple.init.lookup PySem.F.called_tuple.made (by decide) X.prog X.w A.in1 _ s₁ ⟨q.1, rfl, q.2⟩⟩
  refine codeAny_of_tree ?_
  show wpAny _ A.in1.in1 (checkBuiltinCall "tuple.__new__" ⟨[.type "tuple", .ref z], []⟩ >>= fun _ => again (.builtin "tuple.__new__" ⟨[.type "tuple", .ref z], []⟩)) _ _ s
  refine wpAny_bind (wpAny_of_eq (PySem.F.newCall_tuple_1 _) (wpAny_pure ⟨plainId_quiet PySem.F.plain_tuple_new _, codeAny_builtin PySem.F.entry_tuple_new ?_⟩))
  rw [Around.under_plainId PySem.F.plain_tuple_new _]
  have hsub := sub_tuple_self
  have hinit := init_tuple_lookup
  have hmh := madeHere_tuple
  have ty : s.TypeIs (.ref z) "zip" := ⟨_, hz, rfl⟩
  wp_walk using wpAny_typeOf ty, zcollect (A := A.in1.in1) (show A.in1.in1.handled = none from nh) S ni1 ni2 hn I sa sb hz hTI hTO h1 h2 fp
  intro s' H' Ts j1 j2 j3 j4
  show wpAny _ _ (Builtin.Tuple.tupleExact (Ts.map Value.ref).toArray >>= fun v => ret v) _ _ _
  unfold Builtin.Tuple.tupleExact
  refine wpAny_bind (wpAny_newObj_type (wpAny_pure ?_) (by show (Ts.map Value.ref).toArray.size ≤ sizeLine; simp; omega))
  exact ⟨⟨_, Heap.get?_push_size _ rfl, rfl⟩, fin s' H' Ts j1 j2 j3 j4⟩
end
section
variable {X : Cx}
def rTzip (K : PySem.W.Frag) : R2 := fun x y H Q => ∃ (t1 t2 : Bool) (a b : Addr) (xs ys : List V), x = .ref a ∧ y = .ref b ∧ SqB t1 K H a xs ∧ SqB t2 K H b ys ∧ xs.length ≤ sizeLine ∧
  ∀ (H' : Hp) (Ts : List Addr) (p : Addr) (o : Obj), Same H H' → Ts.length = min xs.length ys.length → Made H H' xs ys Ts → H' p = none → o.dict = none → Q (.ref p) (upd H' p (.frz o (.tup (Ts.map V.ref))))
theorem vals_refs : ∀ {Ts : List Addr}, Vals (Ts.map V.ref) (Ts.map Value.ref)
  | [] => .nil
  | _ :: _ => .cons rfl vals_refs
theorem pe_tzip {e e2 : Expr} {ta tb : TE} {p p2 q pos : Pos} (hc : X.calm = true) (g1 : Gl X "tuple") (m1 : X.mg "tuple" = none) (g2 : Gl X "zip") (m2 : X.mg "zip" = none) (ha : PE X e ta) (hb : PE X e2 tb)
    (s1 : starEach [e, e2] X.env = (false, eval e X.env) :: starEach [e2] X.env) (s2 : starEach [e2] X.env = (false, eval e2 X.env) :: starEach [] X.env) :
    PE X (.Call (.Name "tuple" p) [.Call (.Name "zip" p2) [e, e2] [] q] [] pos) (tOp (rTzip X.K) ta tb) := by
  refine ⟨fun pins s σ H Q I h => ?_⟩
  refine PyProof.Rows.Call_ (ld_blt I g1 m1 PyProof.Rows.boot_tuple (PyProof.Rows.callWith_type1 (PyProof.Rows.args_cons ?_ rfl) rfl rfl))
  refine PyProof.Rows.Call_ (ld_blt I g2 m2 PyProof.Rows.boot_zip (PyProof.Rows.callWith_type1 (PyProof.Rows.args_cons (thn (ha.run pins s σ H _ I h) fun v s1 ⟨x, H1, I1, r1, q1⟩ => PyProof.Rows.args_cons (thn (hb.run pins s1 σ H1 _ I1 q1) fun u s2 ⟨y, H2, I2, r2, q2⟩ => PyProof.Rows.args_nil ?_) s2) s1) s1 (by rw [s2]; rfl)))
  obtain ⟨t1, t2, a, b, xs, ys, rfl, rfl, sa, sb, few, fin⟩ := q2
  cases r1
  cases r2
  obtain ⟨its, rv, pa, la⟩ := seqB_of I2 sa
  obtain ⟨its2, rv2, pb, lb⟩ := seqB_of I2 sb
  refine zip_begins2 (beginsB t1 a its.toArray) (beginsB t2 b its2.toArray) pa pb fun h' hz hTI hTO h1 h2 hsz hk => PyProof.Rows.args_nil ?_
  have I3 : Inv X pins σ H2 { s2 with heap := h' } := I2.kept (t' := s2.toks) hk
  have S := sep_new s2.heap.objs.size a b la lb
  refine ztuple (s := { s2 with heap := h' }) (xs := xs) (ys := ys) (I3.ok.hd hc) S (Nat.ne_of_lt la) (Nat.ne_of_lt (Nat.lt_succ_of_lt lb)) (by omega) I3 sa sb hz hTI ⟨_, _, hTO⟩ (itrB_new h1) (itrB_new h2) (fun c hcm => ?_) fun s' H' Ts j1 j2 j3 j4 => ?_
  · have e' : c = s2.heap.objs.size + 4 ∨ c = s2.heap.objs.size + 2 ∨ c = s2.heap.objs.size + 3 ∨ c = s2.heap.objs.size ∨ c = s2.heap.objs.size + 1 := by simpa using hcm
    have hle : s2.heap.objs.size ≤ c := by
      rcases e' with z | z | z | z | z <;> rw [z] <;> omega
    exact I2.fpOk hle (I2.hok.fresh hle)
  · refine ⟨.ref s'.heap.objs.size, _, j1.laid (t' := s'.toks) (o := .frz _ (.tup (Ts.map V.ref))) (fun b u e => Heap.get?_push_of_some _ e) (Nat.le_refl _) ⟨Heap.get?_push_size _ rfl, ?_⟩, rfl, fin H' Ts _ _ j2 j3 j4 (j1.hok.fresh (Nat.le_refl _)) rfl⟩
    exact ⟨by rw [List.length_map, j3]; omega, _, vals_refs, PyProof.Rows.IsTup.new _ _⟩
end
section
variable {K : PySem.W.Frag}
theorem made_rp {H0 H' : Hp} {Ps : List Addr} (dom : ∀ q ∈ Ps, H0 q ≠ none) : ∀ {xs ys : List V} {ds es : List D} {Ts : List Addr}, Ts.length = min xs.length ys.length → Made H0 H' xs ys Ts → RpAll K (hide H' Ps) xs ds → RpAll K (hide H' Ps) ys es → RpAll K (hide H' Ps) (Ts.map V.ref) (zipD ds es)
  | [], _, [], _, Ts, l, _, .nil, _ => by
    have : Ts = [] := List.eq_nil_of_length_eq_zero (by simpa using l)
    subst this; exact .nil
  | _ :: _, [], _, [], Ts, l, _, .cons _ _, .nil => by
    have : Ts = [] := List.eq_nil_of_length_eq_zero (by simpa using l)
    subst this; exact .nil
  | x :: xs, y :: ys, _, _, Ts, l, mk, .cons r rs, .cons r' rs' => by
    cases Ts with
    | nil => simp at l
    | cons T Ts =>
      obtain ⟨h0, o, x', y', h1, h2, h3, h4⟩ := mk 0 T rfl
      cases h3
      cases h4
      refine .cons (.tup (.inl ⟨o, ?_, h2⟩) (.cons r (.cons r' .nil)) (by show 2 ≤ sizeLine; decide)) (made_rp dom (by simp at l ⊢; omega) (fun j T' e => ?_) rs rs')
      · rw [hide_out fun hm => dom _ hm h0]; exact h1
      · exact mk (j + 1) T' (by simpa using e)
theorem r_tzip : R2ok K tzipD (rTzip K) := by
  intro v w H Ps d e x b c Q dom h1 h2 hx q
  cases d with
  | list ds =>
    cases e with
    | list es =>
      cases hx
      obtain ⟨a, xs, rfl, e1, r1, z1⟩ := h1.list
      obtain ⟨a2, ys, rfl, e2, r2, z2⟩ := h2.list
      refine ⟨false, false, a, a2, xs, ys, rfl, rfl, SqL.of e1, SqL.of e2, by rw [r1.length]; exact z1, fun H' Ts p o sm l mk hp ho => q _ _ (sm.trans (same_upd hp)) ?_⟩
      have dom' : ∀ q ∈ Ps, H' q ≠ none := fun q hq hz => by
        cases e0 : H q with
        | none => exact dom q hq e0
        | some u => rw [sm _ _ e0] at hz; cases hz
      have m := made_rp dom l mk (r1.mono (hide_mono sm Ps)) (r2.mono (hide_mono sm Ps))
      exact new_tup ho dom' hp m (by have := m.length; rw [List.length_map, l, r1.length] at this; omega)
    | _ => cases hx
  | _ => cases hx
end
end Tq

/-! Tq, part F: the text held against the small language; the context. -/
namespace Tq
open PySem L2 Res

/-! ### the same datum -/
mutual
def sameD : D → D → Bool
  | .none, .none => true
  | .bool a, .bool b => a == b
  | .int i, .int j => decide (i = j)
  | .str x, .str y => decide (x = y)
  | .list xs, .list ys => sameDs xs ys
  | .tuple xs, .tuple ys => sameDs xs ys
  | .dict xs, .dict ys => sameKV xs ys
  | _, _ => false
def sameDs : List D → List D → Bool
  | [], [] => true
  | x :: xs, y :: ys => sameD x y && sameDs xs ys
  | _, _ => false
def sameKV : List (D × D) → List (D × D) → Bool
  | [], [] => true
  | (a, b) :: xs, (c, d) :: ys => sameD a c && sameD b d && sameKV xs ys
  | _, _ => false
end
mutual
theorem sameD_eq : ∀ (a b : D), sameD a b = true → a = b
  | .none, b, h => by cases b <;> first | rfl | (simp [sameD] at h)
  | .bool a, b, h => by cases b <;> simp [sameD] at h; rw [h]
  | .int a, b, h => by cases b <;> simp [sameD] at h; rw [h]
  | .str a, b, h => by cases b <;> simp [sameD] at h; rw [h]
  | .list xs, b, h => by cases b <;> simp [sameD] at h; rw [sameDs_eq xs _ h]
  | .tuple xs, b, h => by cases b <;> simp [sameD] at h; rw [sameDs_eq xs _ h]
  | .dict xs, b, h => by cases b <;> simp [sameD] at h; rw [sameKV_eq xs _ h]
theorem sameDs_eq : ∀ (a b : List D), sameDs a b = true → a = b
  | [], [], _ => rfl
  | [], _ :: _, h => by simp [sameDs] at h
  | _ :: _, [], h => by simp [sameDs] at h
  | x :: xs, y :: ys, h => by
    simp only [sameDs, Bool.and_eq_true] at h
    rw [sameD_eq x y h.1, sameDs_eq xs ys h.2]
theorem sameKV_eq : ∀ (a b : List (D × D)), sameKV a b = true → a = b
  | [], [], _ => rfl
  | [], _ :: _, h => by simp [sameKV] at h
  | _ :: _, [], h => by simp [sameKV] at h
  | (a, b) :: xs, (c, d) :: ys, h => by
    simp only [sameKV, Bool.and_eq_true] at h
    rw [sameD_eq a c h.1.1, sameD_eq b d h.1.2, sameKV_eq xs ys h.2]
end

/-! ### the text -/
structure Sx where
  N : List Str
  sc : Scope
  M : List Nat
  fnm : Nat → Option (Str × Nat)
  gl : List (Str × D)
  fnc : Str → Bool
def noStar : Expr → Bool
  | .Starred .. => false
  | _ => true
def noSlice : Expr → Bool
  | .Slice .. => false
  | _ => true
def noCall0 : Expr → Bool
  | .Call (.Name _ _) [] [] _ => false
  | _ => true
def noSet : Expr → Bool
  | .Set .. => false
  | _ => true
def plainTest : Expr → Bool
  | .UnaryOp .Not _ _ => false
  | .BoolOp .. => false
  | .IfExp .. => false
  | .Compare .. => false
  | _ => true
def noComp : Expr → Bool
  | .ListComp .. => false
  | .SetComp .. => false
  | .DictComp .. => false
  | _ => true
def visK : Option NameKind → Bool
  | some .local => true
  | some .cell => true
  | some .free => true
  | _ => false
def glK : Option NameKind → Bool
  | some .globalImplicit => true
  | _ => false
def locK (c : Bool) : Option NameKind → Bool
  | some .local => true
  | some .cell => c
  | _ => false
def visB (S : Sx) (i : Nat) (x : Str) : Bool := decide (S.N[i]? = some x) && visK (S.sc.names.lookup x) && !(x == ("__debug__" : Str)) && !(x == ("__classdict__" : Str))
def locB (S : Sx) (i : Nat) (x : Str) : Bool := decide (S.N[i]? = some x) && locK (S.fnc x) (S.sc.names.lookup x)
def glB (S : Sx) (x : Str) : Bool := glK (S.sc.names.lookup x)
def freeNames : List Str := (["len", "tuple", "list", "any", "all", "int", "isinstance", "range", "bool", "str", "enumerate", "zip", "reversed", "set", "sorted", "dict", "sum", "min", "max"] : List String).map Str.ofString

def bcall (S : Sx) (x : Str) : Expr → Option Expr
  | .Call (.Name n _) [a] [] _ => if n = x ∧ glB S x = true ∧ noStar a = true then some a else none
  | _ => none
def cmpOf : Op2 → Option CmpOp
  | .eq => some .Eq
  | .ne => some .NotEq
  | .lt => some .Lt
  | .le => some .LtE
  | .gt => some .Gt
  | .ge => some .GtE
  | .is => some .Is
  | .isnot => some .IsNot
  | .in_ => some .In
  | .notin => some .NotIn
  | _ => none
def binOf : Op2 → Option Operator
  | .add => some .Add
  | .sub => some .Sub
  | .mul => some .Mult
  | .mod => some .Mod
  | .pow => some .Pow
  | _ => none
def unOf : Op1 → Option UnaryOp
  | .neg => some .USub
  | _ => none
def biOf : Op1 → Option Str
  | .len => some "len"
  | .any => some "any"
  | .all => some "all"
  | _ => none
def tyOf : Op1 → Option Str
  | .tuple => some "tuple"
  | .list => some "list"
  | .int => some "int"
  | _ => none
def howE (S : Sx) (f : Str) : Expr → Option Expr
  | .Call (.Name n _) [.Call (.Name m _) [a] [] _] [] _ => if n = f ∧ m = ("set" : Str) ∧ glB S f = true ∧ glB S "set" = true ∧ noStar a = true then some a else none
  | _ => none
/-- list(range(a)) -/
def lrgE (S : Sx) : Expr → Option Expr
  | .Call (.Name n _) [.Call (.Name m _) [a] [] _] [] _ => if n = ("list" : Str) ∧ m = ("range" : Str) ∧ glB S "list" = true ∧ glB S "range" = true ∧ noStar a = true then some a else none
  | _ => none
/-- f(zip(a, b)) -/
def zipE (S : Sx) (f : Str) : Expr → Option (Expr × Expr)
  | .Call (.Name n _) [.Call (.Name m _) [a, b] [] _] [] _ => if n = f ∧ m = ("zip" : Str) ∧ glB S f = true ∧ glB S "zip" = true ∧ noStar a = true ∧ noStar b = true then some (a, b) else none
  | _ => none
/-- a dict of the module: in, get, [] -/
def gdE (op : GOp) (x : Str) : Expr → Option (Expr × Option Expr)
  | .Compare a [.In] [.Name y _] _ => if op = .in_ ∧ y = x then some (a, none) else none
  | .Call (.Attribute (.Name y _) n p) [a, c] [] q => if op = .get ∧ y = x ∧ n = ("get" : Str) ∧ (p.endLine == q.line) = true ∧ noStar a = true ∧ noStar c = true then some (a, some c) else none
  | .Subscript (.Name y _) a _ => if op = .idx ∧ y = x ∧ noSlice a = true then some (a, none) else none
  | _ => none
def isDct : D → Bool
  | .dict _ => true
  | _ => false
def gdB (S : Sx) (x : Str) (kvs : List (D × D)) : Bool := glB S x && S.gl.any (fun p => decide (p.1 = x) && sameD p.2 (.dict kvs)) && !(x == ("__debug__" : Str))
def revE : Expr → Option Expr
  | .Subscript a (.Slice none none (some (.UnaryOp u (.Constant (.int 1) _ _) _)) _) _ => if (u == .USub) = true then some a else none
  | _ => none
def methE0 (x : Str) : Expr → Option Expr
  | .Call (.Attribute a n p) [] [] q => if n = x ∧ (p.endLine == q.line) = true ∧ noCall0 a = true then some a else none
  | _ => none
def unE (u : UnaryOp) : Expr → Option Expr
  | .UnaryOp v a _ => if (v == u) = true then some a else none
  | _ => none
/-- e is this operation over x -/
def sh1 (S : Sx) (op : Op1) (e : Expr) : Option Expr := match op with
  | .neg => unE .USub e
  | .not => unE .Not e
  | .len => bcall S "len" e
  | .any => bcall S "any" e
  | .all => bcall S "all" e
  | .tuple => bcall S "tuple" e
  | .list => bcall S "list" e
  | .int => bcall S "int" e
  | .upper => methE0 "upper" e
  | .lenSet => howE S "len" e
  | .sortSet => howE S "sorted" e
  | .lrange => lrgE S e
  | .sorted => bcall S "sorted" e
  | .rev => revE e
  | .dict => bcall S "dict" e
  | _ => none
def cmpE (op : Op2) : Expr → Option (Expr × Expr)
  | .Compare a [c] [b] _ => if cmpOf op = some c ∧ noSet b = true then some (a, b) else none
  | _ => none
def binE (op : Op2) : Expr → Option (Expr × Expr)
  | .BinOp a c b _ => if binOf op = some c then some (a, b) else none
  | _ => none
def ixE : Expr → Option (Expr × Expr)
  | .Subscript a b _ => if noSlice b = true then some (a, b) else none
  | _ => none
def methE1 (x : Str) : Expr → Option (Expr × Expr)
  | .Call (.Attribute a n p) [b] [] q => if n = x ∧ (p.endLine == q.line) = true ∧ noCall0 a = true ∧ noStar b = true then some (a, b) else none
  | _ => none
def sh2 (S : Sx) (op : Op2) (e : Expr) : Option (Expr × Expr) := match op with
  | .idx => ixE e
  | .join => methE1 "join" e
  | .index => methE1 "index" e
  | .dzip => zipE S "dict" e
  | .tzip => zipE S "tuple" e
  | .eq | .ne | .lt | .le | .gt | .ge | .is | .isnot | .in_ | .notin => cmpE op e
  | .add | .sub | .mul | .mod | .pow => binE op e
  | _ => none
def tyName : Ty → Option Str
  | .int => some "int"
  | .str => some "str"
  | .bool => some "bool"
  | .tuple => some "tuple"
  | .list => some "list"
  | .intstr => none
def isiE (S : Sx) (t : Ty) : Expr → Option Expr
  | .Call (.Name n _) [a, .Name m _] [] _ => if n = ("isinstance" : Str) ∧ tyName t = some m ∧ glB S "isinstance" = true ∧ glB S m = true ∧ noStar a = true then some a else none
  | _ => none
def isi2E (S : Sx) : Expr → Option Expr
  | .Call (.Name n _) [a, .Tuple [.Name x _, .Name y _] _ _] [] _ => if n = ("isinstance" : Str) ∧ x = ("int" : Str) ∧ y = ("str" : Str) ∧ glB S "isinstance" = true ∧ glB S "int" = true ∧ glB S "str" = true ∧ noStar a = true then some a else none
  | _ => none
def isiAll (S : Sx) (t : Ty) (e : Expr) : Option Expr := match t with
  | .intstr => isi2E S e
  | t => isiE S t e
def slE : Expr → Option (Expr × Option Expr × Option Expr)
  | .Subscript a (.Slice lo hi none _) _ => some (a, lo, hi)
  | _ => none
def get2E : Expr → Option (Expr × Expr × Expr)
  | .Call (.Attribute a n p) [b, c] [] q => if n = ("get" : Str) ∧ (p.endLine == q.line) = true ∧ noCall0 a = true ∧ noStar b = true ∧ noStar c = true then some (a, b, c) else none
  | _ => none
def smallStr (x : Str) : Bool := decide (x.length ≤ 1000) && PyData.strOk x
def isVar : IE → Bool
  | .var _ => true
  | _ => false
def isNon : IE → Bool
  | .non => true
  | _ => false
/-- the keys of a display -/
def keyE (k : Str) : Option Expr → Bool
  | some (.Constant (.str x) _ _) => decide (k = x) && smallStr k
  | _ => false
def andE (op : BoolOp) : Expr → Option (Expr × Expr)
  | .BoolOp o (a :: b :: rest) p => if (o == op) = true then some (a, match rest with | [] => b | c :: r => .BoolOp o (b :: c :: r) p) else none
  | _ => none
mutual
def chkT (S : Sx) : Tg → Expr → Bool
  | .nm i, .Name x _ => locB S i x && !(S.M.contains i)
  | .tu ts, .Tuple es _ _ => chkTs S ts es
  | _, _ => false
def chkTs (S : Sx) : Tgs → List Expr → Bool
  | .nil, [] => true
  | .cons t ts, e :: es => noStar e && chkT S t e && chkTs S ts es
  | _, _ => false
end
mutual
def Tg.slots : Tg → List Nat
  | .nm i => [i]
  | .tu ts => Tgs.slots ts
def Tgs.slots : Tgs → List Nat
  | .nil => []
  | .cons t ts => Tg.slots t ++ Tgs.slots ts
end
/-- the block of a comprehension -/
def blkS (S : Sx) (scope : Scope) : Sx := { S with sc := relS scope S.sc, fnc := fun x => scope.names.lookup x == some .cell }
def ownOf (S : Sx) (t : Tg) : List (Str × Nat) := t.slots.map fun i => (S.N.getD i ("" : Str), i)
def lv (M : List Nat) : IE → Bool
  | .var i => M.contains i
  | _ => false
def rng1E (S : Sx) : Expr → Option Expr := bcall S "range"
def rng2E (S : Sx) : Expr → Option (Expr × Expr)
  | .Call (.Name n _) [a, b] [] _ => if n = ("range" : Str) ∧ glB S "range" = true ∧ noStar a = true ∧ noStar b = true then some (a, b) else none
  | _ => none
def bcall2 (S : Sx) (f : Str) : Expr → Option (Expr × Expr)
  | .Call (.Name n _) [a, b] [] _ => if n = f ∧ glB S f = true ∧ noStar a = true ∧ noStar b = true then some (a, b) else none
  | _ => none
def isTupE : Expr → Bool
  | .Tuple _ _ _ => true
  | _ => false
mutual
def chkE (S : Sx) : IE → Expr → Bool
  | .bad, _ => true
  | .var i, e => match e with | .Name x _ => visB S i x | _ => false
  | .non, e => match e with | .Constant .none _ _ => true | _ => false
  | .bl b, e => match e with | .Constant (.bool c) _ _ => b == c | _ => false
  | .int i, e => match e with | .Constant (.int j) _ _ => decide (i = j) | _ => false
  | .str x, e => match e with | .Constant (.str y) _ _ => decide (x = y) && smallStr x | _ => false
  | .glob x d, e => match e with | .Name y _ => decide (x = y) && glB S x && S.gl.any (fun p => decide (p.1 = x) && sameD p.2 d) && !(x == ("__debug__" : Str)) && !(isDct d) | _ => false
  | .tup es, e => match e with | .Tuple xs _ _ => chkEs S es xs && decide (xs.length ≤ 1000) | _ => false
  | .lst es, e => match e with | .List xs _ => chkEs S es xs && decide (xs.length ≤ 1000) | _ => false
  | .dsp ks es, e => match e with | .Dict ks' vs _ => chkDs S ks es ks' vs && decide (ks.length ≤ 15) | _ => false
  | .o1 op a, e => match sh1 S op e with | some x => chkE S a x | none => false
  | .o2 op a b, e => match sh2 S op e with | some (x, y) => chkE S a x && chkE S b y | none => false
  | .o3 .sl a b c, e => match slE e with | some (x, y, z) => chkE S a x && (match y with | none => isNon b | some y' => chkE S b y') && (match z with | none => isNon c | some z' => chkE S c z') | none => false
  | .o3 .get a b c, e => match get2E e with | some (x, y, z) => chkE S a x && chkE S b y && chkE S c z && !(lv S.M c) | none => false
  | .o3 _ _ _ _, _ => false
  | .isi a t, e => match isiAll S t e with | some x => chkE S a x | none => false
  | .and_ a b, e => match andE .And e with | some (x, y) => chkE S a x && chkE S b y && !(lv S.M a) && !(lv S.M b) | none => false
  | .or_ a b, e => match andE .Or e with | some (x, y) => chkE S a x && chkE S b y && !(lv S.M a) && !(lv S.M b) | none => false
  | .ifE c a b, e => match e with | .IfExp x y z _ => chkB S c x && chkE S a y && chkE S b z && !(lv S.M a) && !(lv S.M b) | _ => false
  | .chain o p a b c, e => match e with
    | .Compare x [o', p'] [y, z] _ => decide (cmpOf o = some o') && decide (cmpOf p = some p') && noSet y && noSet z && chkE S a x && chkE S b y && chkE S c z
    | _ => false
  | .call f es, e => match e with
    | .Call (.Name n _) (x :: xs) [] _ => (match S.fnm f with | some (m, ar) => decide (m = n) && decide ((x :: xs).length = ar) && !(n == ("__debug__" : Str)) | none => false) && glB S n && chkEs S es (x :: xs)
    | _ => false
  | .comp t it elt, e => match e with
    | .ListComp x [⟨tg, i, [], 0⟩] scope _ => chkIT S it tg i && noSet i && blkC S.N S.sc scope (ownOf S t) && chkT (blkS S scope) t tg && chkE (blkS S scope) elt x && !(lv S.M elt) && decide (t.slots.Nodup) && t.slots.all (fun i => decide (i < S.N.length) && !(S.M.contains i))
    | _ => false
  | .compIf t it c elt, e => match e with
    | .ListComp x [⟨tg, i, [y], 0⟩] scope _ => chkIT S it tg i && noSet i && blkC S.N S.sc scope (ownOf S t) && chkT (blkS S scope) t tg && chkB (blkS S scope) c y && chkE (blkS S scope) elt x && !(lv S.M elt) && decide (t.slots.Nodup) && t.slots.all (fun i => decide (i < S.N.length) && !(S.M.contains i))
    | _ => false
  | .compK j a elt, e => match e with
    | .ListComp x [⟨tg, i, [], 0⟩] scope _ => isVar a && chkE S a i && !(lv S.M a) && noSet i && blkC S.N S.sc scope (ownOf S (.nm j)) && chkT (blkS S scope) (.nm j) tg && chkE (blkS S scope) elt x && !(lv S.M elt) && decide (j < S.N.length) && !(S.M.contains j)
    | _ => false
  | .compKIf j a c elt, e => match e with
    | .ListComp x [⟨tg, i, [y], 0⟩] scope _ => isVar a && chkE S a i && !(lv S.M a) && noSet i && blkC S.N S.sc scope (ownOf S (.nm j)) && chkT (blkS S scope) (.nm j) tg && chkB (blkS S scope) c y && chkE (blkS S scope) elt x && !(lv S.M elt) && decide (j < S.N.length) && !(S.M.contains j)
    | _ => false
  | .gd op x kvs a c, e => gdB S x kvs && (match gdE op x e with | some (y, z) => chkE S a y && (match z with | none => isNon c | some z' => chkE S c z' && !(lv S.M c)) | none => false)
/-- as a test -/
def chkB (S : Sx) : IE → Expr → Bool
  | .bad, _ => true
  | .and_ a b, e => match andE .And e with | some (x, y) => chkB S a x && chkB S b y | none => false
  | .or_ a b, e => match andE .Or e with | some (x, y) => chkB S a x && chkB S b y | none => false
  | .o1 .not a, e => match e with | .UnaryOp .Not x _ => chkB S a x | _ => false
  | .o2 op a b, e => match e with
    | .Compare x [c] [y] p => (match cmpE op (.Compare x [c] [y] p) with | some (x, y) => chkE S a x && chkE S b y | none => false)
    | e => plainTest e && (match sh2 S op e with | some (x, y) => chkE S a x && chkE S b y | none => false)
  | .chain o p a b c, e => match e with
    | .Compare x [o', p'] [y, z] _ => decide (cmpOf o = some o') && decide (cmpOf p = some p') && noSet y && noSet z && chkE S a x && chkE S b y && chkE S c z
    | _ => false
  | .var i, e => match e with | .Name x _ => visB S i x | _ => false
  | .isi a t, e => match isiAll S t e with | some x => chkE S a x | none => false
  | .call f es, e => match e with
    | .Call (.Name n _) (x :: xs) [] _ => (match S.fnm f with | some (m, ar) => decide (m = n) && decide ((x :: xs).length = ar) && !(n == ("__debug__" : Str)) | none => false) && glB S n && chkEs S es (x :: xs)
    | _ => false
  | .o3 .sl a b c, e => plainTest e && (match slE e with | some (x, y, z) => chkE S a x && (match y with | none => isNon b | some y' => chkE S b y') && (match z with | none => isNon c | some z' => chkE S c z') | none => false)
  | .o1 op a, e => plainTest e && (match sh1 S op e with | some x => chkE S a x | none => false)
  | .gd .in_ x kvs a c, e => gdB S x kvs && (match gdE .in_ x e with | some (y, z) => chkE S a y && (match z with | none => isNon c | some _ => false) | none => false)
  | _, _ => false
def chkEs (S : Sx) : IEs → List Expr → Bool
  | .nil, [] => true
  | .cons a as, e :: es => noStar e && chkE S a e && !(lv S.M a) && chkEs S as es
  | _, _ => false
/-- a display's pairs -/
def chkDs (S : Sx) : List Str → IEs → List (Option Expr) → List Expr → Bool
  | [], .nil, [], [] => true
  | k :: ks, .cons a as, y :: ys, e :: es => keyE k y && chkE S a e && !(lv S.M a) && chkDs S ks as ys es
  | _, _, _, _ => false
def chkIT (S : Sx) : IT → Expr → Expr → Bool
  | .seq a, _, e => chkE S a e && !(lv S.M a)
  | .rng1 a, _, e => match rng1E S e with | some x => chkE S a x | none => false
  | .rng2 a b, _, e => match rng2E S e with | some (x, y) => chkE S a x && chkE S b y | none => false
  | .enum a, tg, e => match bcall S "enumerate" e with | some x => isTupE tg && chkE S a x && !(lv S.M a) | none => false
  | .zip a b, tg, e => match bcall2 S "zip" e with | some (x, y) => isTupE tg && chkE S a x && chkE S b y && !(lv S.M a) && !(lv S.M b) | none => false
  | .rev _, _, _ => false
end
end Tq

/-! Tq, part G: what is known where a text runs; expressions. -/
namespace Tq
open PySem L2 Res

/-! ### slots and plain values -/
structure EnvR (K : PySem.W.Frag) (M : List Nat) (H : Hp) (Ps : List Addr) (σ : St) (env : En) : Prop where
  get : ∀ (i : Nat) (d : D), env[i]? = some (some d) → ∃ v, σ[i]? = some (some v) ∧ RL K H Ps (M.contains i) v d ∧ (M.contains i = true → Pv K H Ps v d)
  inj : ∀ (i j : Nat) (p : Addr) (d e : D), M.contains i = true → M.contains j = true → i ≠ j → env[i]? = some (some d) → env[j]? = some (some e) → σ[i]? = some (some (.ref p)) → σ[j]? = some (some (.ref p)) → False
  dom : ∀ q ∈ Ps, H q ≠ none
  len : σ.length = env.length
section
variable {K : PySem.W.Frag} {M : List Nat} {H H' : Hp} {Ps Ps' : List Addr} {σ : St} {env : En}
theorem EnvR.keep (r : EnvR K M H Ps σ env) (k : Keep Ps H Ps' H') : EnvR K M H' Ps' σ env where
  get := fun i d e => by
    obtain ⟨v, h1, h2, h3⟩ := r.get i d e
    exact ⟨v, h1, h2.keep k, fun z => (h3 z).keep k⟩
  inj := r.inj
  dom := k.dom
  len := r.len
theorem EnvR.same (r : EnvR K M H Ps σ env) (s : Same H H') : EnvR K M H' Ps σ env := r.keep (Keep.same r.dom s)
/-- a slot that is not hidden is set -/
theorem EnvR.set {i : Nat} {v : V} {d : D} (r : EnvR K M H Ps σ env) (hi : M.contains i = false) (h : Rp K (hide H Ps) v d) : EnvR K M H Ps (σ.set i (some v)) (env.set i (some d)) where
  get := fun j e he => by
    by_cases hj : i = j
    · subst hj
      by_cases hl : i < env.length
      · rw [List.getElem?_set_self hl] at he
        cases he
        exact ⟨v, List.getElem?_set_self (by rw [r.len]; exact hl), .of h, fun z => by rw [hi] at z; cases z⟩
      · rw [List.getElem?_eq_none (by simpa using hl)] at he; cases he
    · rw [List.getElem?_set_ne hj] at he ⊢
      exact r.get j e he
  inj := fun a b p d' e' ha hb hab h1 h2 h3 h4 => by
    have na : i ≠ a := fun z => by subst z; rw [hi] at ha; cases ha
    have nb : i ≠ b := fun z => by subst z; rw [hi] at hb; cases hb
    rw [List.getElem?_set_ne na] at h1 h3
    rw [List.getElem?_set_ne nb] at h2 h4
    exact r.inj a b p d' e' ha hb hab h1 h2 h3 h4
  dom := r.dom
  len := by simp [r.len]
end

/-! ### what a reading comes to -/
def EvD (K : PySem.W.Frag) (t : TE) (σ : St) (H : Hp) (Ps : List Addr) (b : Bool) (d : D) : Prop :=
  ∀ H0, Same H H0 → ∀ Q : VK, (∀ v H1, Same H0 H1 → RL K H1 Ps b v d → Q v H1) → t σ H0 Q
def EvB (t : TT) (σ : St) (H : Hp) (b : Bool) : Prop :=
  ∀ H0, Same H H0 → ∀ Q : Bool → Hp → Prop, (∀ H1, Same H0 H1 → Q b H1) → t σ H0 Q
def EvA (K : PySem.W.Frag) (t : TA) (σ : St) (H : Hp) (Ps : List Addr) (ds : List D) : Prop :=
  ∀ H0, Same H H0 → ∀ Q : List V → Hp → Prop, (∀ vs H1, Same H0 H1 → RpAll K (hide H1 Ps) vs ds → Q vs H1) → t σ H0 Q
section
variable {K : PySem.W.Frag} {σ : St} {H H' : Hp} {Ps : List Addr} {b c : Bool} {d e x : D} {ta tb : TE} {dom : ∀ q ∈ Ps, H q ≠ none}
theorem dom_same (dom : ∀ q ∈ Ps, H q ≠ none) (s : Same H H') : ∀ q ∈ Ps, H' q ≠ none := fun q hq z => dom q hq (s.free z)
theorem EvD.mono {t : TE} (h : EvD K t σ H Ps b d) (s : Same H H') : EvD K t σ H' Ps b d := fun H0 s0 Q q => h H0 (s.trans s0) Q q
theorem RL.same {v : V} (h : RL K H Ps b v d) (dom : ∀ q ∈ Ps, H q ≠ none) (s : Same H H') : RL K H' Ps b v d := h.keep (Keep.same dom s)
theorem ev1 {f : D → Res D} {r : V → Hp → VK → Prop} (dom : ∀ q ∈ Ps, H q ≠ none) (hr : R1ok K f r) (ha : EvD K ta σ H Ps b d) (hx : f d = .ok x) : EvD K (tUn r ta) σ H Ps false x := fun H0 s0 Q q =>
  ha H0 s0 _ fun v H1 s1 rv => hr v H1 Ps d x b Q (dom_same dom (s0.trans s1)) rv hx fun u H2 s2 ru => q u H2 (s1.trans s2) (.of ru)
theorem ev2 {f : D → D → Res D} {r : R2} (dom : ∀ q ∈ Ps, H q ≠ none) (hr : R2ok K f r) (ha : EvD K ta σ H Ps b d) (hb : EvD K tb σ H Ps c e) (hx : f d e = .ok x) : EvD K (tOp r ta tb) σ H Ps false x := fun H0 s0 Q q =>
  ha H0 s0 _ fun v H1 s1 rv => hb H1 (s0.trans s1) _ fun w H2 s2 rw => hr v w H2 Ps d e x b c Q (dom_same dom ((s0.trans s1).trans s2)) (rv.same (dom_same dom (s0.trans s1)) s2) rw hx fun u H3 s3 ru => q u H3 ((s1.trans s2).trans s3) (.of ru)
/-- a test by an expression's truth -/
theorem evT {t : Bool} (dom : ∀ q ∈ Ps, H q ≠ none) (ha : EvD K ta σ H Ps b d) (ht : truth d = .ok t) : EvB (fun σ H Q => ta σ H fun x H' => ∃ k, TruV K x H' k ∧ Q k H') σ H t := fun H0 s0 Q q =>
  ha H0 s0 _ fun v H1 s1 rv => ⟨t, tru_of rv ht, q H1 s1⟩
/-- a comparison's test -/
theorem evTest {t : Bool} (ha : EvD K ta σ H Ps b (.bool t)) : EvB (tTest ta) σ H t := fun H0 s0 Q q =>
  ha H0 s0 _ fun v H1 s1 rv => ⟨t, rv.bl, q H1 s1⟩
end

/-! ### the context -/
/-- what a def of ours promises -/
def spF (K : PySem.W.Frag) (ar : Nat) (r : List D → Res D) : Sp := fun vs H Q E => vs.length = ar ∧ ∃ (ds : List D) (Ps : List Addr) (d : D), RpAll K (hide H Ps) vs ds ∧ (∀ q ∈ Ps, H q ≠ none) ∧ r ds = .ok d ∧
  ∀ v H', Same H H' → Rp K (hide H' Ps) v d → Q v H'
/-- what a module's name stands for -/
def gV : Value → V
  | .none => .non
  | .bool b => .bl b
  | .int i _ => .int i
  | .str x _ => .str x
  | .ref a => .ref a
  | _ => .non
def gK (K : PySem.W.Frag) (x : Str) : V := match PySem.W.nsIn K mainGlobals x with
  | some (some u) => gV u
  | _ => .non
/-- a dict of the module -/
def KDp (K : PySem.W.Frag) (x : Str) (kvs : List (D × D)) : Prop := ∃ d, gK K x = .ref d ∧ ∀ z, (∀ e, lookD z kvs = some e → ∃ u, PySem.W.nsIn K d z = some (some u) ∧ RelV (gV u) u ∧ ∀ H, Rp K H (gV u) e) ∧ (lookD z kvs = none → PySem.W.nsIn K d z = some none)
structure Gd (S : Sx) (k : Nat) (defs : Nat → Option FDef) (K : PySem.W.Frag) (X : Cx) : Prop where
  hK : X.K = K
  N : X.N = S.N
  nd : S.N.Nodup
  sc : X.env.scope = S.sc
  calm : X.calm = true
  room : Room k X.A
  fn : X.fn = S.fnc
  free : ∀ x ∈ freeNames, X.mg x = none
  gls : ∀ p ∈ S.gl, ∃ u, X.mg p.1 = some u ∧ RelV (gK K p.1) u
  glr : ∀ p ∈ S.gl, isDct p.2 = false → ∀ H, Rp K H (gK K p.1) p.2
  gld : ∀ p ∈ S.gl, ∀ kvs, p.2 = .dict kvs → KDp K p.1 kvs ∧ ∃ d es n, gK K p.1 = .ref d ∧ KDict K X.w d es n
  fns : ∀ (f : Nat) (x : Str) (ar : Nat), S.fnm f = some (x, ar) → ∃ a fd ps, X.mg x = some (.ref a) ∧ PySem.W.keepIn X.K (.ref a) = true ∧ Binds X.K fd ps [] ∧
    FnOk X.prog X.w X.K X.mg X.base (L2.CX X.prog X.w) k a fd ps (spF X.K ar (callF defs k f))
section
variable {S : Sx} {k : Nat} {defs : Nat → Option FDef} {K : PySem.W.Frag} {X : Cx}
theorem Gd.vis (g : Gd S k defs K X) {i : Nat} {x : Str} (h : visB S i x = true) : X.N[i]? = some x ∧ Vis X.env.scope x ∧ (x == ("__debug__" : Str)) = false ∧ (x == ("__classdict__" : Str)) = false := by
  unfold visB at h
  simp only [Bool.and_eq_true, decide_eq_true_eq, Bool.not_eq_true'] at h
  obtain ⟨⟨⟨h1, h2⟩, h3⟩, h4⟩ := h
  refine ⟨by rw [g.N]; exact h1, ?_, h3, h4⟩
  rw [g.sc]
  unfold Vis
  cases e : S.sc.names.lookup x with
  | none => rw [e] at h2; cases h2
  | some kd => cases kd <;> first | (rw [e] at h2; cases h2; done) | simp
theorem Gd.gl (g : Gd S k defs K X) {x : Str} (h : glB S x = true) : Gl X x := by
  unfold glB at h
  show X.env.scope.names.lookup x = _
  rw [g.sc]
  cases e : S.sc.names.lookup x with
  | none => rw [e] at h; cases h
  | some kd => cases kd <;> first | (rw [e] at h; cases h; done) | rfl
theorem Gd.loc (g : Gd S k defs K X) {i : Nat} {x : Str} (h : locB S i x = true) : X.N[i]? = some x ∧ L2.Loc X.env.scope x ∧ (X.fn x = true ∨ X.env.scope.names.lookup x = some .local) := by
  unfold locB at h
  simp only [Bool.and_eq_true, decide_eq_true_eq] at h
  obtain ⟨h1, h2⟩ := h
  refine ⟨by rw [g.N]; exact h1, ?_⟩
  rw [g.sc, g.fn]
  unfold L2.Loc
  cases e : S.sc.names.lookup x with
  | none => rw [e] at h2; cases h2
  | some kd => cases kd <;> first | (rw [e] at h2; cases h2; done) | (rw [e] at h2; simp; try exact h2)
theorem Gd.hu (g : Gd S k defs K X) : X.A.units + 64 < cLine := g.room.units
end
theorem star1 {e : Expr} {es : List Expr} {env : Env} (h : noStar e = true) : starEach (e :: es) env = (false, eval e env) :: starEach es env := by
  cases e <;> first | rfl | cases h
theorem sub_plain {b : Expr} (h : noSlice b = true) : PlainIx b := fun o i => by
  cases b <;> first | rfl | cases h
theorem base_plain {o : Expr} {n : Str} {env : Env} (h : noCall0 o = true) : attributeBase o n env (eval o env) = eval o env := by
  unfold attributeBase
  cases o with
  | Call f as ks p =>
    cases f <;> first | rfl | skip
    cases as <;> first | rfl | skip
    cases ks <;> first | rfl | cases h
  | _ => rfl
theorem mark_plain {op : CmpOp} {b : Expr} (h : noSet b = true) : behindInMarks op b = false := by
  cases b <;> first | rfl | cases h
theorem test_plain {e : Expr} {env : Env} (h : plainTest e = true) (whole : Sem Value) : isTrue e env whole = (do let v ← whole; standAt e.pos; holding [v] (truthy v)) := by
  cases e with
  | UnaryOp op x p => cases op <;> first | rfl | cases h
  | BoolOp _ _ _ => cases h
  | IfExp _ _ _ _ => cases h
  | Compare _ _ _ _ => cases h
  | _ => rfl

/-! ### comparisons, operators -/
section
variable {S : Sx} {k : Nat} {defs : Nat → Option FDef} {K : PySem.W.Frag} {X : Cx}
theorem cmp_ok : ∀ {op : Op2} {c : CmpOp}, cmpOf op = some c → ∃ r, (∀ X, Gd S k defs K X → OpR X (compareOp c) r) ∧ R2ok K (op2 op) r
  | .eq, _, h => by cases h; exact ⟨rEqM K, fun X g => g.hK ▸ op_eqM g.hu, r_eq⟩
  | .ne, _, h => by cases h; exact ⟨rNeM K, fun X g => g.hK ▸ op_neM g.hu, r_ne⟩
  | .lt, _, h => by cases h; exact ⟨rLtAll, fun X g => op_lt.or op_lt_str, r_lt⟩
  | .le, _, h => by cases h; exact ⟨rLeAll, fun X g => op_le.or op_le_str, r_le⟩
  | .gt, _, h => by cases h; exact ⟨rGtAll, fun X g => op_gt.or op_gt_str, r_gt⟩
  | .ge, _, h => by cases h; exact ⟨rGeAll, fun X g => op_ge.or op_ge_str, r_ge⟩
  | .is, _, h => by cases h; exact ⟨rIsAll, fun X g => op_isN.or op_isB, r_is⟩
  | .isnot, _, h => by cases h; exact ⟨rIsNotAll, fun X g => op_notN.or op_notB, r_isnot⟩
  | .in_, _, h => by cases h; exact ⟨rInAll K false, fun X g => g.hK ▸ (op_inDct g.hu).or (op_in_sign.or (op_inM g.hu)), r_in⟩
  | .notin, _, h => by cases h; exact ⟨rInAll K true, fun X g => g.hK ▸ (op_notInDct g.hu).or (op_notIn_sign.or (op_notInM g.hu)), r_notin⟩
  | .add, _, h | .sub, _, h | .mul, _, h | .mod, _, h | .fdiv, _, h | .pow, _, h | .idx, _, h | .fm, _, h | .to, _, h | .min2, _, h | .max2, _, h | .index, _, h | .join, _, h | .count, _, h | .dzip, _, h | .tzip, _, h => by cases h
theorem bin_ok : ∀ {op : Op2} {c : Operator}, binOf op = some c → ∃ r, (∀ X : Cx, X.K = K → OpR X (binaryOp c) r) ∧ R2ok K (op2 op) r
  | .add, _, h => by cases h; exact ⟨rAddAll K, fun X g => g ▸ op_addBI.or (op_add.or (op_add_str.or (op_cat.or op_catF))), r_add⟩
  | .sub, _, h => by cases h; exact ⟨rSubAll, fun X g => op_subBI.or (op_subIB.or op_sub), r_sub⟩
  | .mul, _, h => by cases h; exact ⟨rMulAll, fun X g => op_mulBI.or (op_mul.or (op_rep.or op_repS)), r_mul⟩
  | .mod, _, h => by cases h; exact ⟨_, fun X g => op_mod, r_mod⟩
  | .pow, _, h => by cases h; exact ⟨_, fun X g => op_pow, r_pow⟩
  | .eq, _, h | .ne, _, h | .lt, _, h | .le, _, h | .gt, _, h | .ge, _, h | .is, _, h | .isnot, _, h | .in_, _, h | .notin, _, h | .fdiv, _, h | .idx, _, h | .fm, _, h | .to, _, h | .min2, _, h | .max2, _, h | .index, _, h | .join, _, h | .count, _, h | .dzip, _, h | .tzip, _, h => by cases h
/-- two places: how an expression comes of its parts -/
def Sem2 (C : Cx → Prop) (K : PySem.W.Frag) (e x y : Expr) (ta tb : TE) (f : D → D → Res D) : Prop := ∃ t, (∀ X, C X → PE X x ta → PE X y tb → PE X e t) ∧
  ∀ σ H Ps b c d d' z, (∀ q ∈ Ps, H q ≠ none) → EvD K ta σ H Ps b d → EvD K tb σ H Ps c d' → f d d' = .ok z → EvD K t σ H Ps false z
def Sem1 (C : Cx → Prop) (K : PySem.W.Frag) (e x : Expr) (ta : TE) (f : D → Res D) : Prop := ∃ t, (∀ X, C X → PE X x ta → PE X e t) ∧
  ∀ σ H Ps b d z, (∀ q ∈ Ps, H q ≠ none) → EvD K ta σ H Ps b d → f d = .ok z → EvD K t σ H Ps false z
theorem sem2_of {C : Cx → Prop} {e x y : Expr} {ta tb : TE} {f : D → D → Res D} {r : R2} (h : ∀ X, C X → PE X x ta → PE X y tb → PE X e (tOp r ta tb)) (hr : R2ok K f r) : Sem2 C K e x y ta tb f :=
  ⟨_, h, fun _ _ _ _ _ _ _ _ dom ha hb hx => ev2 dom hr ha hb hx⟩
theorem sem1_of {C : Cx → Prop} {e x : Expr} {ta : TE} {f : D → Res D} {r : V → Hp → VK → Prop} (h : ∀ X, C X → PE X x ta → PE X e (tUn r ta)) (hr : R1ok K f r) : Sem1 C K e x ta f :=
  ⟨_, h, fun _ _ _ _ _ _ dom ha hx => ev1 dom hr ha hx⟩
theorem cmpE_ok {op : Op2} {e x y : Expr} (h : cmpE op e = some (x, y)) : ∃ c p, e = .Compare x [c] [y] p ∧ cmpOf op = some c ∧ noSet y = true := by
  unfold cmpE at h
  split at h
  · split at h
    · rename_i hc
      cases h
      exact ⟨_, _, rfl, hc.1, hc.2⟩
    · cases h
  · cases h
theorem binE_ok {op : Op2} {e x y : Expr} (h : binE op e = some (x, y)) : ∃ c p, e = .BinOp x c y p ∧ binOf op = some c := by
  unfold binE at h
  split at h
  · split at h
    · rename_i hc
      cases h
      exact ⟨_, _, rfl, hc⟩
    · cases h
  · cases h
theorem ixE_ok {e x y : Expr} (h : ixE e = some (x, y)) : ∃ p, e = .Subscript x y p ∧ noSlice y = true := by
  unfold ixE at h
  split at h
  · split at h
    · rename_i hc
      cases h
      exact ⟨_, rfl, hc⟩
    · cases h
  · cases h
theorem methE1_ok {n : Str} {e x y : Expr} (h : methE1 n e = some (x, y)) : ∃ p q, e = .Call (.Attribute x n p) [y] [] q ∧ (p.endLine == q.line) = true ∧ noCall0 x = true ∧ noStar y = true := by
  unfold methE1 at h
  split at h
  · split at h
    · rename_i hc
      cases h
      obtain ⟨rfl, h1, h2, h3⟩ := hc
      exact ⟨_, _, rfl, h1, h2, h3⟩
    · cases h
  · cases h
theorem bcall_ok {S : Sx} {n : Str} {e x : Expr} (h : bcall S n e = some x) : ∃ p q, e = .Call (.Name n p) [x] [] q ∧ glB S n = true ∧ noStar x = true := by
  unfold bcall at h
  split at h
  · split at h
    · rename_i hc
      cases h
      obtain ⟨rfl, h1, h2⟩ := hc
      exact ⟨_, _, rfl, h1, h2⟩
    · cases h
  · cases h
theorem howE_ok {S : Sx} {f : Str} {e x : Expr} (h : howE S f e = some x) : ∃ p p2 q pos, e = .Call (.Name f p) [.Call (.Name "set" p2) [x] [] q] [] pos ∧ glB S f = true ∧ glB S "set" = true ∧ noStar x = true := by
  unfold howE at h
  split at h
  · split at h
    · rename_i hc
      cases h
      obtain ⟨rfl, rfl, h1, h2, h3⟩ := hc
      exact ⟨_, _, _, _, rfl, h1, h2, h3⟩
    · cases h
  · cases h
theorem lrgE_ok {S : Sx} {e x : Expr} (h : lrgE S e = some x) : ∃ p p2 q pos, e = .Call (.Name "list" p) [.Call (.Name "range" p2) [x] [] q] [] pos ∧ glB S "list" = true ∧ glB S "range" = true ∧ noStar x = true := by
  unfold lrgE at h
  split at h
  · split at h
    · rename_i hc
      cases h
      obtain ⟨rfl, rfl, h1, h2, h3⟩ := hc
      exact ⟨_, _, _, _, rfl, h1, h2, h3⟩
    · cases h
  · cases h
theorem rangeI_rp {K : PySem.W.Frag} {H : Hp} : ∀ (n : Nat) (lo : Int), RpAll K H ((List.range n).map fun i => V.int (lo + (i : Nat))) (rangeI lo n)
  | 0, _ => .nil
  | n + 1, lo => by
    rw [List.range_succ_eq_map, List.map_cons, List.map_map]
    have := rangeI_rp (K := K) (H := H) n (lo + 1)
    refine .cons (by rw [Int.natCast_zero, Int.add_zero]; exact .int lo) ?_
    have e : (fun i : Nat => V.int (lo + 1 + (i : Nat))) = (fun i : Nat => V.int (lo + (i : Nat))) ∘ Nat.succ := by
      funext i
      show V.int _ = V.int _
      congr 1
      have : ((Nat.succ i : Nat) : Int) = (i : Int) + 1 := by simp
      rw [this]; omega
    rw [e] at this
    exact this
theorem rangeI_len : ∀ (n : Nat) (lo : Int), (rangeI lo n).length = n
  | 0, _ => rfl
  | n + 1, lo => by show (rangeI (lo + 1) n).length + 1 = n + 1; rw [rangeI_len n]
theorem zipE_ok {S : Sx} {f : Str} {e x y : Expr} (h : zipE S f e = some (x, y)) : ∃ p p2 q pos, e = .Call (.Name f p) [.Call (.Name "zip" p2) [x, y] [] q] [] pos ∧ glB S f = true ∧ glB S "zip" = true ∧ noStar x = true ∧ noStar y = true := by
  unfold zipE at h
  split at h
  · split at h
    · rename_i hc
      cases h
      obtain ⟨rfl, rfl, h1, h2, h3, h4⟩ := hc
      exact ⟨_, _, _, _, rfl, h1, h2, h3, h4⟩
    · cases h
  · cases h
theorem revE_ok {e x : Expr} (h : revE e = some x) : ∃ k p1 p2 p3 pos, e = .Subscript x (.Slice none none (some (.UnaryOp .USub (.Constant (.int 1) k p1) p2)) p3) pos := by
  unfold revE at h
  split at h
  · split at h
    · rename_i u _ _ _ _ _ hc
      have : u = .USub := by simpa using hc
      subst this
      cases h
      exact ⟨_, _, _, _, _, rfl⟩
    · cases h
  · cases h
theorem methE0_ok {n : Str} {e x : Expr} (h : methE0 n e = some x) : ∃ p q, e = .Call (.Attribute x n p) [] [] q ∧ (p.endLine == q.line) = true ∧ noCall0 x = true := by
  unfold methE0 at h
  split at h
  · split at h
    · rename_i hc
      cases h
      obtain ⟨rfl, h1, h2⟩ := hc
      exact ⟨_, _, rfl, h1, h2⟩
    · cases h
  · cases h
theorem slE_ok {e x : Expr} {lo hi : Option Expr} (h : slE e = some (x, lo, hi)) : ∃ p pos, e = .Subscript x (.Slice lo hi none p) pos := by
  unfold slE at h
  split at h
  · cases h; exact ⟨_, _, rfl⟩
  · cases h
theorem get2E_ok {e x y z : Expr} (h : get2E e = some (x, y, z)) : ∃ p q, e = .Call (.Attribute x "get" p) [y, z] [] q ∧ (p.endLine == q.line) = true ∧ noCall0 x = true ∧ noStar y = true ∧ noStar z = true := by
  unfold get2E at h
  split at h
  · split at h
    · rename_i hc
      cases h
      obtain ⟨rfl, h1, h2, h3, h4⟩ := hc
      exact ⟨_, _, rfl, h1, h2, h3, h4⟩
    · cases h
  · cases h
theorem unE_ok {u : UnaryOp} {e x : Expr} (h : unE u e = some x) : ∃ v p, e = .UnaryOp v x p ∧ (v == u) = true := by
  unfold unE at h
  split at h
  · split at h
    · rename_i hc
      cases h
      exact ⟨_, _, rfl, hc⟩
    · cases h
  · cases h
theorem Sem2.cmp {op : Op2} {e x y : Expr} {ta tb : TE} (h : cmpE op e = some (x, y)) : Sem2 (Gd S k defs K) K e x y ta tb (op2 op) := by
  obtain ⟨c, p, rfl, h1, h2⟩ := cmpE_ok h
  obtain ⟨r, ho, hr⟩ := cmp_ok (S := S) (k := k) (defs := defs) (K := K) h1
  exact sem2_of (fun X g hx hy => pe_cmpR (ho X g) hx hy (mark_plain h2)) hr
theorem Sem2.bin {op : Op2} {e x y : Expr} {ta tb : TE} (h : binE op e = some (x, y)) : Sem2 (Gd S k defs K) K e x y ta tb (op2 op) := by
  obtain ⟨c, p, rfl, h1⟩ := binE_ok h
  obtain ⟨r, ho, hr⟩ := bin_ok (K := K) h1
  exact sem2_of (fun X g hx hy => pe_op (ho X g.hK) hx hy) hr
theorem Sem2.ix {e x y : Expr} {ta tb : TE} (h : ixE e = some (x, y)) : Sem2 (Gd S k defs K) K e x y ta tb idxD := by
  obtain ⟨p, rfl, h1⟩ := ixE_ok h
  exact sem2_of (fun X g hx hy => g.hK ▸ pe_ix ((ix_dct g.hu).or ix_seq) hx hy (sub_plain h1)) r_idx
theorem strOk_join (s : Str) (hs : PyData.strOk s = true) : ∀ xs : List Str, (∀ x ∈ xs, PyData.strOk x = true) → PyData.strOk (Str.join s xs) = true
  | [], _ => by unfold PyData.strOk; simp [Str.join, Str.empty]
  | [x], h => h x (by simp)
  | x :: y :: r, h => by
    show PyData.strOk (x ++ s ++ Str.join s (y :: r)) = true
    exact strOk_append (strOk_append (h x (by simp)) hs) (strOk_join s hs (y :: r) fun z hz => h z (List.mem_cons_of_mem _ hz))
theorem length_join (s : Str) : ∀ xs : List Str, (Str.join s xs).length ≤ (xs.map Str.length).sum + xs.length * s.length
  | [] => by show 0 ≤ _; omega
  | [x] => by
    show x.length ≤ _
    simp only [List.map_cons, List.map_nil, List.sum_cons, List.sum_nil, List.length_cons, List.length_nil]
    omega
  | x :: y :: r => by
    have ih := length_join s (y :: r)
    show (x ++ s ++ Str.join s (y :: r)).length ≤ _
    rw [length_append_str, length_append_str, List.map_cons, List.sum_cons, List.length_cons, Nat.add_mul]
    omega
theorem line_eq : (sizeLine : Nat) = 16777216 := sizeLine_eq
theorem Sem2.join {e x y : Expr} {ta tb : TE} (h : methE1 "join" e = some (x, y)) : Sem2 (Gd S k defs K) K e x y ta tb joinD := by
  obtain ⟨p, q, rfl, h1, h2, h3⟩ := methE1_ok h
  refine ⟨_, fun X g hx hy => g.hK ▸ pe_join hx hy (star1 h3) (base_plain h2) h1, fun σ H Ps b c d d' z dom ha hb hz H0 s0 Q qq => ?_⟩
  cases d with
  | str s =>
    cases d' with
    | list ds =>
      refine ha H0 s0 _ fun v H1 s1 rv => ?_
      obtain ⟨rfl, a1, a2⟩ := rv.str
      refine ⟨⟨s, rfl⟩, hb H1 (s0.trans s1) _ fun w H2 s2 rw => ?_⟩
      obtain ⟨a, vs, rfl, e1, r, zz⟩ := rw.list
      have hz' : (match strsD ds with | some (xs : List Str) => if fits ((xs.map Str.length).sum + xs.length * s.length) then Res.ok (PyData.str (Str.join s xs)) else .bad | none => .bad) = .ok z := hz
      cases hs : strsD ds with
      | none => rw [hs] at hz'; cases hz'
      | some xs =>
        rw [hs] at hz'
        obtain ⟨b1, b2⟩ := strs_of r hs
        by_cases hf : fits ((xs.map Str.length).sum + xs.length * s.length) = true
        · have hz2 : (if fits ((xs.map Str.length).sum + xs.length * s.length) = true then Res.ok (PyData.str (Str.join s xs)) else .bad) = .ok z := hz'
          rw [if_pos hf] at hz2; cases hz2
          have hf' : (xs.map Str.length).sum + xs.length * s.length ≤ sizeLine := of_decide_eq_true hf
          refine ⟨s, a, xs, rfl, rfl, .inl (SqL.of (by rw [← b1]; exact e1)), by rw [← line_eq]; exact hf', ?_⟩
          have e : Txt.join s xs = Str.join s xs := PySem.StrLaws.glued_eq_join s xs
          rw [e]
          exact qq _ _ (s1.trans s2) (.of (.str (Nat.le_trans (length_join s xs) hf') (strOk_join s a2 xs b2)))
        · have hz2 : (if fits ((xs.map Str.length).sum + xs.length * s.length) = true then Res.ok (PyData.str (Str.join s xs)) else .bad) = .ok z := hz'
          rw [if_neg hf] at hz2; cases hz2
    | _ => cases hz
  | _ => cases hz
theorem Sem2.dz {e x y : Expr} {ta tb : TE} (h : zipE S "dict" e = some (x, y)) : Sem2 (Gd S k defs K) K e x y ta tb dzipD := by
  obtain ⟨p, p2, q, pos, rfl, h1, h2, h3, h4⟩ := zipE_ok h
  exact sem2_of (fun X g hx hy => g.hK ▸ pe_dzip g.calm (g.gl h1) (g.free _ (by decide +kernel)) (g.gl h2) (g.free _ (by decide +kernel)) hx hy (star1 h3) (star1 h4)) r_dzip
theorem Sem2.tz {e x y : Expr} {ta tb : TE} (h : zipE S "tuple" e = some (x, y)) : Sem2 (Gd S k defs K) K e x y ta tb tzipD := by
  obtain ⟨p, p2, q, pos, rfl, h1, h2, h3, h4⟩ := zipE_ok h
  exact sem2_of (fun X g hx hy => g.hK ▸ pe_tzip g.calm (g.gl h1) (g.free _ (by decide +kernel)) (g.gl h2) (g.free _ (by decide +kernel)) hx hy (star1 h3) (star1 h4)) r_tzip
theorem Sem2.idx {e x y : Expr} {ta tb : TE} (h : methE1 "index" e = some (x, y)) : Sem2 (Gd S k defs K) K e x y ta tb indexD := by
  obtain ⟨p, q, rfl, h1, h2, h3⟩ := methE1_ok h
  refine ⟨tBM K "list" (rIdxS K) ta (tCons tb tNil), fun X g hx hy => g.hK ▸ pe_bm PySem.F.plainAttrs_list PySem.F.slot_list_index PySem.F.type_list_index mt_idxS hx (pa_cons hy pa_nil (star1 h3)) (base_plain h2) (by rw [star1 h3]; rfl) h1 (star1 h3) rfl, fun σ H Ps b c d d' z dom ha hb hz H0 s0 Q qq => ?_⟩
  cases d with
  | list ds =>
    cases d' with
    | str w =>
      have hz : (match strsD ds with | some xs => (match placeS w xs with | some i => Res.ok (PyData.int i) | none => .bad) | none => .bad) = .ok z := hz
      cases hs : strsD ds with
      | none => rw [hs] at hz; cases hz
      | some xs =>
        rw [hs] at hz
        have hz : (match placeS w xs with | some i => Res.ok (PyData.int i) | none => .bad) = .ok z := hz
        cases hp : placeS w xs with
        | none => rw [hp] at hz; cases hz
        | some i =>
          rw [hp] at hz
          cases hz
          refine ha H0 s0 _ fun v H1 s1 rv => ?_
          obtain ⟨a, vs, rfl, e1, r, _⟩ := rv.list
          obtain ⟨b1, b2⟩ := strs_of r hs
          subst b1
          refine ⟨.inl ⟨rfl, _, SqL.of e1⟩, hb H1 (s0.trans s1) _ fun w2 H2 s2 rw2 => ?_⟩
          obtain ⟨rfl, _, _⟩ := rw2.str
          exact ⟨a, xs, w, i, rfl, rfl, SqL.of (s2 _ _ e1), hp, qq _ H2 (s1.trans s2) (.of (.int _))⟩
    | _ => cases hz
  | _ => cases hz
theorem sem2_ok {op : Op2} {e x y : Expr} {ta tb : TE} (h : sh2 S op e = some (x, y)) : Sem2 (Gd S k defs K) K e x y ta tb (op2 op) := by
  cases op <;> first | exact Sem2.cmp h | exact Sem2.bin h | exact Sem2.ix h | exact Sem2.join h | exact Sem2.dz h | exact Sem2.tz h | exact Sem2.idx h | cases h
theorem Sem1.up {e x : Expr} {ta : TE} (h : methE0 "upper" e = some x) : Sem1 (Gd S k defs K) K e x ta upperD := by
  obtain ⟨p, q, rfl, h1, h2⟩ := methE0_ok h
  refine ⟨_, fun X g hx => pe_upper hx (base_plain h2) h1, fun σ H Ps b d z dom ha hz H0 s0 Q qq => ?_⟩
  cases d with
  | str s =>
    have hz : (if (decide (s.length ≤ 5592405) && fits (Txt.upper s).length && PyData.strOk (Txt.upper s)) = true then Res.ok (PyData.str (Txt.upper s)) else .bad) = .ok z := hz
    split at hz
    · rename_i hc
      cases hz
      simp only [Bool.and_eq_true, decide_eq_true_eq] at hc
      refine ha H0 s0 _ fun v H1 s1 rv => ?_
      obtain ⟨rfl, a1, a2⟩ := rv.str
      exact ⟨⟨s, rfl⟩, s, rfl, rfl, hc.1.1, qq _ _ s1 (.of (.str (of_decide_eq_true hc.1.2) hc.2))⟩
    · cases hz
  | _ => cases hz
theorem boot_any : bootBuiltins "any" = some (.builtin "any") := by decide +kernel
theorem boot_all : bootBuiltins "all" = some (.builtin "all") := by decide +kernel
theorem boot_tuple' : bootBuiltins "tuple" = some (.type "tuple") := by decide +kernel
theorem boot_list' : bootBuiltins "list" = some (.type "list") := by decide +kernel
theorem boot_int' : bootBuiltins "int" = some (.type "int") := by decide +kernel
theorem sem1_ok {op : Op1} {e x : Expr} {ta : TE} (h : sh1 S op e = some x) : Sem1 (Gd S k defs K) K e x ta (op1 op) := by
  cases op with
  | neg =>
    obtain ⟨v, p, rfl, hv⟩ := unE_ok (show unE .USub e = some x from h)
    have : v = .USub := by simpa using hv
    subst this
    exact sem1_of (fun X g hx => pe_un un_neg hx) r_neg
  | not =>
    obtain ⟨v, p, rfl, hv⟩ := unE_ok (show unE .Not e = some x from h)
    have : v = .Not := by simpa using hv
    subst this
    exact sem1_of (fun X g hx => g.hK ▸ pe_notT hx) r_not
  | len =>
    obtain ⟨p, q, rfl, h1, h2⟩ := bcall_ok (show bcall S "len" e = some x from h)
    exact sem1_of (fun X g hx => g.hK ▸ pe_callB call_len (g.gl h1) (g.free _ (by decide +kernel)) PySem.boot_len (pa_cons hx pa_nil (star1 h2)) (he := star1 h2)) r_len
  | any =>
    obtain ⟨p, q, rfl, h1, h2⟩ := bcall_ok (show bcall S "any" e = some x from h)
    exact sem1_of (fun X g hx => g.hK ▸ pe_callB (cr_any g.calm) (g.gl h1) (g.free _ (by decide +kernel)) boot_any (pa_cons hx pa_nil (star1 h2)) (he := star1 h2)) r_any
  | all =>
    obtain ⟨p, q, rfl, h1, h2⟩ := bcall_ok (show bcall S "all" e = some x from h)
    exact sem1_of (fun X g hx => g.hK ▸ pe_callB (cr_all g.calm) (g.gl h1) (g.free _ (by decide +kernel)) boot_all (pa_cons hx pa_nil (star1 h2)) (he := star1 h2)) r_all
  | tuple =>
    obtain ⟨p, q, rfl, h1, h2⟩ := bcall_ok (show bcall S "tuple" e = some x from h)
    exact sem1_of (fun X g hx => g.hK ▸ pe_callTy call_tuple_F (g.gl h1) (g.free _ (by decide +kernel)) boot_tuple' (pa_cons hx pa_nil (star1 h2)) (he := star1 h2)) r_tuple
  | list =>
    obtain ⟨p, q, rfl, h1, h2⟩ := bcall_ok (show bcall S "list" e = some x from h)
    exact sem1_of (fun X g hx => g.hK ▸ pe_callTy call_list_of (g.gl h1) (g.free _ (by decide +kernel)) boot_list' (pa_cons hx pa_nil (star1 h2)) (he := star1 h2)) r_list
  | int =>
    obtain ⟨p, q, rfl, h1, h2⟩ := bcall_ok (show bcall S "int" e = some x from h)
    exact sem1_of (fun X g hx => pe_callTy call_int1 (g.gl h1) (g.free _ (by decide +kernel)) boot_int' (pa_cons hx pa_nil (star1 h2)) (he := star1 h2)) r_int
  | lenSet =>
    obtain ⟨p, p2, q, pos, rfl, h1, h2, h3⟩ := howE_ok (show howE S "len" e = some x from h)
    exact sem1_of (fun X g hx => g.hK ▸ pe_how g.calm (g.gl h1) (g.free _ (by decide +kernel)) (g.gl h2) (g.free _ (by decide +kernel)) hx (star1 h3)) r_how
  | sortSet =>
    obtain ⟨p, p2, q, pos, rfl, h1, h2, h3⟩ := howE_ok (show howE S "sorted" e = some x from h)
    exact sem1_of (fun X g hx => g.hK ▸ pe_ris g.calm (g.gl h1) (g.free _ (by decide +kernel)) (g.gl h2) (g.free _ (by decide +kernel)) hx (star1 h3)) r_ris
  | lrange =>
    obtain ⟨p, p2, q, pos, rfl, h1, h2, h3⟩ := lrgE_ok (show lrgE S e = some x from h)
    refine ⟨tLstRg (tRg1 ta), fun X g hx => pe_listRg g.calm (g.gl h1) (g.free _ (by decide +kernel)) (prg_1 (g.gl h2) (g.free _ (by decide +kernel)) hx (star1 h3)) rfl, fun σ H Ps b d z dom ha hz H0 s0 Q qq => ?_⟩
    have hz : lrangeD d = .ok z := hz
    cases d with
    | int n =>
      have hz : (if decide (0 ≤ n ∧ n ≤ 100000) = true then Res.ok (PyData.list (rangeI 0 n.toNat)) else .bad) = .ok z := hz
      by_cases hd : 0 ≤ n ∧ n ≤ 100000
      · rw [if_pos (decide_eq_true hd)] at hz
        cases hz
        refine ha H0 s0 _ fun v H1 s1 rv => ?_
        cases rv.int
        refine ⟨n, rfl, RgOk.of_le (by omega) (by omega) (by omega) (by omega), fun q hq => qq _ _ (s1.trans (same_upd hq)) (.of ?_)⟩
        have dom' : ∀ p ∈ Ps, H1 p ≠ none := fun p hp hz => by
          cases e0 : H p with
          | none => exact dom p hp e0
          | some u => rw [s1 _ _ (s0 _ _ e0)] at hz; cases hz
        refine .lst (xs := rgV 0 n) (by rw [hide_out (not_hid dom' hq), upd_same]) ?_ (by rw [rangeI_len, sizeLine_eq]; omega)
        unfold rgV
        rw [Int.sub_zero]
        exact rangeI_rp _ _
      · rw [if_neg (by simpa using hd)] at hz
        cases hz
    | _ => cases hz
  | sorted =>
    obtain ⟨p, q, rfl, h1, h2⟩ := bcall_ok (show bcall S "sorted" e = some x from h)
    exact sem1_of (fun X g hx => g.hK ▸ pe_callB (cr_srt3 g.calm) (g.gl h1) (g.free _ (by decide +kernel)) (show bootBuiltins "sorted" = some (.builtin "sorted") by decide +kernel) (pa_cons hx pa_nil (star1 h2)) (he := star1 h2)) r_srt
  | rev =>
    obtain ⟨k, p1, p2, p3, pos, rfl⟩ := revE_ok (show revE e = some x from h)
    exact sem1_of (fun X g hx => g.hK ▸ pe_turn hx) r_rev
  | dict =>
    obtain ⟨p, q, rfl, h1, h2⟩ := bcall_ok (show bcall S "dict" e = some x from h)
    exact sem1_of (fun X g hx => g.hK ▸ pe_callTy (call_dictB g.calm) (g.gl h1) (g.free _ (by decide +kernel)) PyProof.Rows.boot_dict (pa_cons hx pa_nil (star1 h2)) (he := star1 h2)) r_dict
  | upper => exact Sem1.up h
  | _ => cases h
end
end Tq

/-! Tq, part H: isinstance, targets, what is walked. -/
namespace Tq
open PySem L2 Res

/-! ### isinstance -/
def tyS : D → String
  | .none => "NoneType"
  | .bool _ => "bool"
  | .int _ => "int"
  | .str _ => "str"
  | .list _ => "list"
  | .tuple _ => "tuple"
  | .dict _ => "dict"
def tyN : Ty → String
  | .int => "int"
  | .str => "str"
  | .bool => "bool"
  | .tuple => "tuple"
  | .list => "list"
  | .intstr => "int"
theorem kit_all : (["NoneType", "bool", "int", "str", "list", "tuple"] : List String).all (fun a => (["int", "str", "bool", "tuple", "list"] : List String).all fun b => decide (kitB a b = some (decide (a = b) || (decide (a = "bool") && decide (b = "int"))))) = true := by decide +kernel
theorem kit_at {d : D} {t : Ty} (hd : ∀ k, d ≠ .dict k) (ht : t ≠ .intstr) : kitB (tyS d) (tyN t) = some (isTy d t) := by
  have h := kit_all
  simp only [List.all_cons, List.all_nil, Bool.and_true, Bool.and_eq_true, decide_eq_true_eq] at h
  cases d with
  | dict k => exact absurd rfl (hd k)
  | none => cases t <;> first | exact absurd rfl ht | (refine Eq.trans ?_ (by rfl : some _ = some _); simp only [tyS, tyN, isTy, h]; rfl)
  | bool b => cases t <;> first | exact absurd rfl ht | (refine Eq.trans ?_ (by rfl : some _ = some _); simp only [tyS, tyN, isTy, h]; rfl)
  | int i => cases t <;> first | exact absurd rfl ht | (refine Eq.trans ?_ (by rfl : some _ = some _); simp only [tyS, tyN, isTy, h]; rfl)
  | str x => cases t <;> first | exact absurd rfl ht | (refine Eq.trans ?_ (by rfl : some _ = some _); simp only [tyS, tyN, isTy, h]; rfl)
  | list x => cases t <;> first | exact absurd rfl ht | (refine Eq.trans ?_ (by rfl : some _ = some _); simp only [tyS, tyN, isTy, h]; rfl)
  | tuple x => cases t <;> first | exact absurd rfl ht | (refine Eq.trans ?_ (by rfl : some _ = some _); simp only [tyS, tyN, isTy, h]; rfl)
theorem sqT_ty {K : PySem.W.Frag} {H : Hp} {a : Addr} {xs : List V} (h : SqT K H a xs) : TyX K H (.ref a) (.type "tuple") := by
  rcases h with (h | ⟨o, h⟩) | ⟨o, its, n, h, hc, _⟩
  · exact .base (.tup h)
  · exact .fTuple h
  · exact .kTuple h hc
theorem RL.ty {K : PySem.W.Frag} {H : Hp} {Ps : List Addr} {b : Bool} {v : V} {d : D} (h : RL K H Ps b v d) (hd : ∀ k, d ≠ .dict k) : TyX K H v (.type (tyS d)) := by
  cases d with
  | dict k => exact absurd rfl (hd k)
  | none => cases h.non; exact .base .non
  | bool c => cases h.bl; exact .base (.bl c)
  | int i => cases h.int; exact .base (.int i)
  | str x => obtain ⟨rfl, _⟩ := h.str; exact .base (.str x)
  | list ds => obtain ⟨a, xs, rfl, e, _⟩ := h.list; exact .base (.lst e)
  | tuple ds => obtain ⟨a, xs, rfl, e, _⟩ := h.tuple; exact sqT_ty e
theorem isiE_ok {S : Sx} {t : Ty} {e x : Expr} (h : isiE S t e = some x) : ∃ p p2 q m, e = .Call (.Name "isinstance" p) [x, .Name m p2] [] q ∧ tyName t = some m ∧ glB S "isinstance" = true ∧ glB S m = true ∧ noStar x = true := by
  unfold isiE at h
  split at h
  · split at h
    · rename_i hc
      cases h
      obtain ⟨rfl, h1, h2, h3, h4⟩ := hc
      exact ⟨_, _, _, _, rfl, h1, h2, h3, h4⟩
    · cases h
  · cases h
theorem boot_isi : bootBuiltins "isinstance" = some (.builtin "isinstance") := by decide +kernel
theorem boot_ty : ∀ {t : Ty} {m : Str}, tyName t = some m → t ≠ .intstr ∧ m ∈ freeNames ∧ bootBuiltins m = some (.type (tyN t)) ∧ m ≠ "__name__" ∧ (m == ("__debug__" : Str)) = false
  | .int, _, h => by cases h; exact ⟨nofun, by decide +kernel, by decide +kernel, by decide +kernel, by decide +kernel⟩
  | .str, _, h => by cases h; exact ⟨nofun, by decide +kernel, by decide +kernel, by decide +kernel, by decide +kernel⟩
  | .bool, _, h => by cases h; exact ⟨nofun, by decide +kernel, by decide +kernel, by decide +kernel, by decide +kernel⟩
  | .tuple, _, h => by cases h; exact ⟨nofun, by decide +kernel, by decide +kernel, by decide +kernel, by decide +kernel⟩
  | .list, _, h => by cases h; exact ⟨nofun, by decide +kernel, by decide +kernel, by decide +kernel, by decide +kernel⟩
  | .intstr, _, h => by cases h
section
variable {S : Sx} {k : Nat} {defs : Nat → Option FDef} {K : PySem.W.Frag} {X : Cx}
theorem Sem1.isi {t : Ty} {e x : Expr} {ta : TE} (h : isiE S t e = some x) : Sem1 (Gd S k defs K) K e x ta (isiD t) := by
  obtain ⟨p, p2, q, m, rfl, h1, h2, h3, h4⟩ := isiE_ok h
  obtain ⟨b0, b1, b2, b3, b4⟩ := boot_ty h1
  refine ⟨_, fun X g hx => g.hK ▸ pe_callB call_isi (g.gl h2) (g.free _ (by decide +kernel)) boot_isi (pa_cons hx (pa_cons (pe_bltn (v := .ty (tyN t)) (g.gl h3) (g.free _ b1) b2 rfl b3 b4) pa_nil) (star1 h4)) (he := star1 h4), fun σ H Ps b d z dom ha hz H0 s0 Q qq => ?_⟩
  refine ha H0 s0 _ fun v H1 s1 rv => ?_
  have hd : ∀ kk, d ≠ .dict kk := fun kk e => by subst e; cases hz
  have hz' : Res.ok (PyData.bool (isTy d t)) = .ok z := by cases d <;> first | exact hz | exact absurd rfl (hd _)
  cases hz'
  exact ⟨v, .ty (tyN t), _, _, _, rfl, .ty _, rv.ty hd, kit_ty (kit_at hd b0), qq _ _ s1 (.of (.bl _))⟩
theorem boot_str' : bootBuiltins "str" = some (.type "str") := by decide +kernel
theorem isi2E_ok {e x : Expr} (h : isi2E S e = some x) : ∃ p p1 p2 kk pt q, e = .Call (.Name "isinstance" p) [x, .Tuple [.Name "int" p1, .Name "str" p2] kk pt] [] q ∧ glB S "isinstance" = true ∧ glB S "int" = true ∧ glB S "str" = true ∧ noStar x = true := by
  unfold isi2E at h
  split at h
  · split at h
    · rename_i hc
      cases h
      obtain ⟨rfl, rfl, rfl, h1, h2, h3, h4⟩ := hc
      exact ⟨_, _, _, _, _, _, rfl, h1, h2, h3, h4⟩
    · cases h
  · cases h
theorem kit_two {d : D} (hd : ∀ k, d ≠ .dict k) : PySem.W.kitAny K (.type (tyS d)) [.type "int", .type "str"] = some (isTy d .intstr) := by
  have h1 : PySem.W.kitOne K (.type (tyS d)) (.type "int") = some (isTy d .int) := kit_ty (kit_at (t := .int) hd nofun)
  have h2 : PySem.W.kitOne K (.type (tyS d)) (.type "str") = some (isTy d .str) := kit_ty (kit_at (t := .str) hd nofun)
  have e : isTy d .intstr = (isTy d .int || isTy d .str) := by cases d <;> rfl
  show (match PySem.W.kitOne K (.type (tyS d)) (.type "int") with | some true => some true | some false => PySem.W.kitAny K (.type (tyS d)) [.type "str"] | none => none) = _
  rw [h1, e]
  cases isTy d .int with
  | true => rfl
  | false =>
    show (match PySem.W.kitOne K (.type (tyS d)) (.type "str") with | some true => some true | some false => PySem.W.kitAny K (.type (tyS d)) [] | none => none) = _
    rw [h2]
    cases isTy d .str <;> rfl
theorem Sem1.isi2 {e x : Expr} {ta : TE} (h : isi2E S e = some x) : Sem1 (Gd S k defs K) K e x ta (isiD .intstr) := by
  obtain ⟨p, p1, p2, kk, pt, q, rfl, h1, h2, h3, h4⟩ := isi2E_ok h
  refine ⟨_, fun X g hx => g.hK ▸ pe_callB call_isiT (g.gl h1) (g.free _ (by decide +kernel)) boot_isi (pa_cons hx (pa_cons (pe_tup (pa_cons (pe_bltn (v := .ty "int") (g.gl h2) (g.free _ (by decide +kernel)) boot_int' rfl) (pa_cons (pe_bltn (v := .ty "str") (g.gl h3) (g.free _ (by decide +kernel)) boot_str' rfl) pa_nil))) pa_nil) (star1 h4)) (he := star1 h4), fun σ H Ps b d z dom ha hz H0 s0 Q qq => ?_⟩
  refine ha H0 s0 _ fun v H1 s1 rv => ?_
  have hd : ∀ kk, d ≠ .dict kk := fun kk e => by subst e; cases hz
  have hz' : Res.ok (PyData.bool (isTy d .intstr)) = .ok z := by cases d <;> first | exact hz | exact absurd rfl (hd _)
  cases hz'
  refine ⟨by show 2 ≤ sizeLine; decide, fun p hp => ?_⟩
  refine ⟨v, p, [.ty "int", .ty "str"], .type (tyS d), [.type "int", .type "str"], _, rfl, upd_same, .cons (.ty _) (.cons (.ty _) .nil), ?_, kit_two hd, qq _ _ (s1.trans (same_upd hp)) (.of (.bl _))⟩
  exact (rv.same (dom_same dom (s0.trans s1)) (same_upd hp)).ty hd
theorem Sem1.isiA {t : Ty} {e x : Expr} {ta : TE} (h : isiAll S t e = some x) : Sem1 (Gd S k defs K) K e x ta (isiD t) := by
  cases t with
  | intstr => exact Sem1.isi2 h
  | int => exact Sem1.isi (t := .int) h
  | str => exact Sem1.isi (t := .str) h
  | bool => exact Sem1.isi (t := .bool) h
  | tuple => exact Sem1.isi (t := .tuple) h
  | list => exact Sem1.isi (t := .list) h
theorem isiAll_plain {t : Ty} {e x : Expr} (h : isiAll S t e = some x) : plainTest e = true := by
  cases t with
  | intstr => obtain ⟨_, _, _, _, _, _, rfl, _⟩ := isi2E_ok h; rfl
  | int => obtain ⟨_, _, _, _, rfl, _⟩ := isiE_ok (show isiE S .int e = some x from h); rfl
  | str => obtain ⟨_, _, _, _, rfl, _⟩ := isiE_ok (show isiE S .str e = some x from h); rfl
  | bool => obtain ⟨_, _, _, _, rfl, _⟩ := isiE_ok (show isiE S .bool e = some x from h); rfl
  | tuple => obtain ⟨_, _, _, _, rfl, _⟩ := isiE_ok (show isiE S .tuple e = some x from h); rfl
  | list => obtain ⟨_, _, _, _, rfl, _⟩ := isiE_ok (show isiE S .list e = some x from h); rfl
end

/-! ### targets -/
theorem asg_star {e : Expr} {es : List Expr} {env : Env} (h : noStar e = true) : assignEach (e :: es) env = (false, assign e env) :: assignEach es env := by
  cases e <;> first | rfl | cases h
theorem asg_len {S : Sx} {env : Env} : ∀ {ts : Tgs} {es : List Expr}, chkTs S ts es = true → (assignEach es env).length = es.length ∧ (assignEach es env).findIdx? (·.1) = none
  | .nil, [], _ => ⟨rfl, rfl⟩
  | .nil, _ :: _, h => by simp [chkTs] at h
  | .cons _ _, [], h => by simp [chkTs] at h
  | .cons t ts, e :: es, h => by
    simp only [chkTs, Bool.and_eq_true] at h
    obtain ⟨a, b⟩ := asg_len (env := env) h.2
    rw [asg_star h.1.1]
    refine ⟨by simp [a], ?_⟩
    rw [List.findIdx?_cons]
    simp [b]
/-- like slots outside -/
def Out (ns : List Nat) {α : Type} (a b : List α) : Prop := a.length = b.length ∧ ∀ i, i ∉ ns → a[i]? = b[i]?
theorem Out.refl {ns : List Nat} {α : Type} (a : List α) : Out ns a a := ⟨rfl, fun _ _ => rfl⟩
theorem Out.trans {ns : List Nat} {α : Type} {a b c : List α} (h : Out ns a b) (h' : Out ns b c) : Out ns a c := ⟨h.1.trans h'.1, fun i hi => (h.2 i hi).trans (h'.2 i hi)⟩
theorem Out.mono {ns ms : List Nat} {α : Type} {a b : List α} (h : Out ns a b) (s : ∀ i ∈ ns, i ∈ ms) : Out ms a b := ⟨h.1, fun i hi => h.2 i fun z => hi (s i z)⟩
section
variable {S : Sx} {k : Nat} {defs : Nat → Option FDef} {K : PySem.W.Frag} {X : Cx}
/-- what a target does -/
def TgOk (K : PySem.W.Frag) (M : List Nat) (t : Tg) (g : TG) : Prop := ∀ v σ H Ps env env' d Q, EnvR K M H Ps σ env → Rp K (hide H Ps) v d → t.put d env = .ok env' → (∀ σ', Out t.slots σ' σ → EnvR K M H Ps σ' env' → Q σ' H) → g v σ H Q
def TgsOk (K : PySem.W.Frag) (M : List Nat) (t : Tgs) (g : TGs) : Prop := ∀ vs σ H Ps env env' ds Q, EnvR K M H Ps σ env → RpAll K (hide H Ps) vs ds → t.put ds env = .ok env' → (∀ σ', Out t.slots σ' σ → EnvR K M H Ps σ' env' → Q σ' H) → g vs σ H Q
mutual
def tgR (K : PySem.W.Frag) : Tg → TG
  | .nm i => gName i
  | .tu ts => gTup K (tgN ts) (tgsR K ts)
def tgsR (K : PySem.W.Frag) : Tgs → TGs
  | .nil => gNil
  | .cons t ts => gCons (tgR K t) (tgsR K ts)
def tgN : Tgs → Nat
  | .nil => 0
  | .cons _ ts => tgN ts + 1
end
theorem tgN_len : ∀ {ts : Tgs} {es : List Expr}, chkTs S ts es = true → es.length = tgN ts
  | .nil, [], _ => rfl
  | .nil, _ :: _, h => by simp [chkTs] at h
  | .cons _ _, [], h => by simp [chkTs] at h
  | .cons t ts, e :: es, h => by
    simp only [chkTs, Bool.and_eq_true] at h
    rw [List.length_cons, tgN_len h.2]; rfl
mutual
theorem tg_pg (g : Gd S k defs K X) : ∀ {t : Tg} {e : Expr}, chkT S t e = true → PG X e (tgR K t)
  | .nm i, e, h => by
    cases e with
    | Name x p =>
      simp only [chkT, Bool.and_eq_true, Bool.not_eq_true'] at h
      obtain ⟨l1, l2, l3⟩ := g.loc h.1
      exact pg_name (by rw [g.N]; exact g.nd) l1 l2 l3
    | _ => simp [chkT] at h
  | .tu ts, e, h => by
    cases e with
    | Tuple es kk p =>
      have h' : chkTs S ts es = true := by simpa [chkT] using h
      obtain ⟨a, b⟩ := asg_len (env := X.env) h'
      exact g.hK ▸ pg_tup g.calm (g.hK ▸ tgs_pg g h') (by rw [a, tgN_len h']) b
    | _ => simp [chkT] at h
theorem tgs_pg (g : Gd S k defs K X) : ∀ {ts : Tgs} {es : List Expr}, chkTs S ts es = true → PGs X es (tgsR K ts)
  | .nil, [], _ => pgs_nil
  | .nil, _ :: _, h => by simp [chkTs] at h
  | .cons _ _, [], h => by simp [chkTs] at h
  | .cons t ts, e :: es, h => by
    simp only [chkTs, Bool.and_eq_true] at h
    exact pgs_cons (tg_pg g h.1.2) (tgs_pg g h.2) (by rw [asg_star h.1.1]; rfl)
end
mutual
theorem tg_ok : ∀ {t : Tg} {e : Expr}, chkT S t e = true → TgOk K S.M t (tgR K t)
  | .nm i, e, h => by
    cases e with
    | Name x p =>
      simp only [chkT, Bool.and_eq_true, Bool.not_eq_true'] at h
      intro v σ H Ps env env' d Q r rv hp q
      cases hp
      refine q _ ⟨by simp, fun j hj => ?_⟩ (r.set h.2 rv)
      rw [List.getElem?_set_ne (fun z => hj (by simp [Tg.slots, z]))]
    | _ => simp [chkT] at h
  | .tu ts, e, h => by
    cases e with
    | Tuple es kk p =>
      have h' : chkTs S ts es = true := by simpa [chkT] using h
      intro v σ H Ps env env' d Q r rv hput q
      cases d with
      | tuple ds =>
        cases rv with
        | tup hs ra z =>
          refine ⟨_, _, rfl, seqT (hide_le _ _) hs.sq, ?_, tgs_ok h' _ σ H Ps env env' ds Q r ra hput q⟩
          rw [ra.length, tgs_len h' hput, tgN_len h']
      | _ => cases hput
    | _ => simp [chkT] at h
theorem tgs_len : ∀ {ts : Tgs} {es : List Expr} {ds : List D} {env env' : En}, chkTs S ts es = true → ts.put ds env = .ok env' → ds.length = es.length
  | .nil, [], [], _, _, _, _ => rfl
  | .nil, [], _ :: _, _, _, _, hp => by simp [Tgs.put] at hp
  | .nil, _ :: _, _, _, _, h, _ => by simp [chkTs] at h
  | .cons _ _, [], _, _, _, h, _ => by simp [chkTs] at h
  | .cons _ _, _ :: _, [], _, _, _, hp => by simp [Tgs.put] at hp
  | .cons t ts, e :: es, d :: ds, env, env', h, hp => by
    simp only [chkTs, Bool.and_eq_true] at h
    simp only [Tgs.put] at hp
    cases q : t.put d env with
    | ok e1 =>
      rw [q] at hp
      rw [List.length_cons, List.length_cons, tgs_len h.2 hp]
    | exc _ _ => rw [q] at hp; cases hp
    | bad => rw [q] at hp; cases hp
theorem tgs_ok : ∀ {ts : Tgs} {es : List Expr}, chkTs S ts es = true → TgsOk K S.M ts (tgsR K ts)
  | .nil, [], _ => fun vs σ H Ps env env' ds Q r rv hp q => by
      cases ds with
      | nil =>
        cases hp
        cases rv
        exact ⟨rfl, q _ (Out.refl _) r⟩
      | cons _ _ => simp [Tgs.put] at hp
  | .nil, _ :: _, h => by simp [chkTs] at h
  | .cons _ _, [], h => by simp [chkTs] at h
  | .cons t ts, e :: es, h => by
    simp only [chkTs, Bool.and_eq_true] at h
    intro vs σ H Ps env env' ds Q r rv hp q
    cases rv with
    | nil => simp [Tgs.put] at hp
    | cons h1 h2 =>
      rename_i v vs d ds
      simp only [Tgs.put] at hp
      cases qq : t.put d env with
      | ok e1 =>
        rw [qq] at hp
        refine ⟨v, vs, rfl, tg_ok h.1.2 v σ H Ps env e1 d _ r h1 qq fun σ1 u1 r1 => ?_⟩
        exact tgs_ok h.2 vs σ1 H Ps e1 env' ds Q r1 h2 hp fun σ2 u2 r2 => q σ2 ((u2.mono fun i hi => by simp [Tgs.slots, hi]).trans (u1.mono fun i hi => by simp [Tgs.slots, hi])) r2
      | exc _ _ => rw [qq] at hp; cases hp
      | bad => rw [qq] at hp; cases hp
end
end

/-! ### what is walked -/
structure IterOk (K : PySem.W.Frag) (J : It) (H1 : Hp) (Ps : List Addr) (ds : List D) : Prop where
  fit : ds.length ≤ sizeLine
  ex : ∃ G Y, Walk J ds.length G Y ∧ (∀ Ps' H', Same (hide H1 Ps) (hide H' Ps') → G H') ∧
    ∀ i Ps' Hi x H', i < ds.length → Same (hide H1 Ps) (hide Hi Ps') → (∀ q ∈ Ps', Hi q ≠ none) → Y i Hi x H' → Same Hi H' ∧ ∃ d, ds[i]? = some d ∧ Rp K (hide H' Ps') x d
def EvI (K : PySem.W.Frag) (wi : TI) (σ : St) (H : Hp) (Ps : List Addr) (ds : List D) : Prop :=
  ∀ H0, Same H H0 → ∀ R : It → Hp → Prop, (∀ J H1, Same H0 H1 → IterOk K J H1 Ps ds → R J H1) → wi σ H0 R
section
variable {K : PySem.W.Frag} {H : Hp} {Ps : List Addr} {ds : List D}
theorem iter_list {a : Addr} {xs : List V} (h : hide H Ps a = some (.lst xs)) (r : RpAll K (hide H Ps) xs ds) (z : ds.length ≤ sizeLine) : IterOk K (Itl K a) H Ps ds := by
  refine ⟨z, fun H => SqL K H a xs, YAt xs, by rw [← r.length]; exact walk_list, fun Ps' H' s => SqL.of (hide_le _ _ _ _ (s _ _ h)), fun i Ps' Hi x H' hi s dom y => ?_⟩
  obtain ⟨rfl, hx⟩ := y
  obtain ⟨d, h1, h2⟩ := r.get hx
  exact ⟨Same.refl _, d, h1, h2.mono s⟩
theorem iter_tup {a : Addr} {xs : List V} (h : SqT K (hide H Ps) a xs) (r : RpAll K (hide H Ps) xs ds) (z : ds.length ≤ sizeLine) : IterOk K (Itt K a) H Ps ds := by
  refine ⟨z, fun H => SqT K H a xs, YAt xs, by rw [← r.length]; exact walk_tup, fun Ps' H' s => seqT (hide_le _ _) (seqT s h), fun i Ps' Hi x H' hi s dom y => ?_⟩
  obtain ⟨rfl, hx⟩ := y
  obtain ⟨d, h1, h2⟩ := r.get hx
  exact ⟨Same.refl _, d, h1, h2.mono s⟩
theorem iter_str {x : Str} (h : PyData.strOk x = true) (z : x.length ≤ sizeLine) : IterOk K (Its x) H Ps (x.cps.toList.map fun c => .str ⟨#[c]⟩) := by
  have hl : (x.cps.toList.map fun c => (PyData.str ⟨#[c]⟩ : D)).length = x.cps.size := by simp
  refine ⟨by rw [hl]; exact z, fun _ => True, _, by rw [hl]; exact walk_str, fun _ _ _ => trivial, fun i Ps' Hi v H' hi s dom y => ?_⟩
  obtain ⟨rfl, c, hc, rfl⟩ := y
  have hc' : x.cps.toList[i]? = some c := by simpa using hc
  exact ⟨Same.refl _, _, by rw [List.getElem?_map, hc']; rfl, Rp.sing h (List.mem_of_getElem? hc')⟩
theorem rangeD_get : ∀ (n : Nat) (lo : Int) (i : Nat), i < n → (rangeD lo n)[i]? = some (.int (lo + i))
  | 0, _, _, h => absurd h (Nat.not_lt_zero _)
  | n + 1, lo, 0, _ => by simp [rangeD]
  | n + 1, lo, i + 1, h => by
    have := rangeD_get n (lo + 1) i (by omega)
    simp only [rangeD, List.getElem?_cons_succ, this]
    congr 2
    push_cast
    omega
theorem rangeD_length : ∀ (n : Nat) (lo : Int), (rangeD lo n).length = n
  | 0, _ => rfl
  | n + 1, lo => by simp [rangeD, rangeD_length n]
theorem iter_range {lo : Int} {n : Nat} (z : n ≤ sizeLine) : IterOk K (Itr lo n) H Ps (rangeD lo n) := by
  have hl := rangeD_length n lo
  refine ⟨by rw [hl]; exact z, fun _ => True, _, by rw [hl]; exact walk_range, fun _ _ _ => trivial, fun i Ps' Hi v H' hi s dom y => ?_⟩
  obtain ⟨rfl, rfl⟩ := y
  exact ⟨Same.refl _, _, rangeD_get n lo i (by rw [hl] at hi; exact hi), .int _⟩
end
theorem PI.or {X : Cx} {tg e : Expr} {w w' : TI} (h : PI X tg e w) (h' : PI X tg e w') : PI X tg e (fun σ H R => w σ H R ∨ w' σ H R) :=
  ⟨fun pins s σ H R I hw => hw.elim (h.run pins s σ H R I) (h'.run pins s σ H R I)⟩
section
variable {K : PySem.W.Frag} {σ : St} {H : Hp} {Ps : List Addr} {ta tb : TE} {d : D} {ds : List D}
def iSeq (K : PySem.W.Frag) (t : TE) : TI := fun σ H R => iList K t σ H R ∨ iTup K t σ H R ∨ iStr t σ H R
theorem pi_seq {X : Cx} {tg e : Expr} {t : TE} (h : PE X e t) : PI X tg e (iSeq X.K t) := PI.or (pi_list h) (PI.or (pi_tup h) (pi_str h))
theorem evSeq (ha : EvD K ta σ H Ps false d) (hd : itemsOf d = .ok ds) : EvI K (iSeq K ta) σ H Ps ds := fun H0 s0 R q => by
  cases d with
  | list xs =>
    cases hd
    refine .inl (ha H0 s0 _ fun v H1 s1 rv => ?_)
    cases rv.clean with
    | lst h r z => exact ⟨_, rfl, ⟨_, SqL.of (hide_le _ _ _ _ h)⟩, q _ _ s1 (iter_list h r z)⟩
  | tuple xs =>
    cases hd
    refine .inr (.inl (ha H0 s0 _ fun v H1 s1 rv => ?_))
    cases rv.clean with
    | tup h r z => exact ⟨_, rfl, ⟨_, seqT (hide_le _ _) h.sq⟩, q _ _ s1 (iter_tup h.sq r z)⟩
  | str x =>
    cases hd
    refine .inr (.inr (ha H0 s0 _ fun v H1 s1 rv => ?_))
    obtain ⟨rfl, z1, z2⟩ := rv.str
    exact ⟨x, rfl, q _ _ s1 (iter_str z2 z1)⟩
  | _ => cases hd
theorem evRng1 {n : Int} {b : Bool} (ha : EvD K ta σ H Ps b (.int n)) (h1 : -(2 ^ 62) ≤ n) (h2 : n ≤ (sizeLine : Int)) : EvI K (iRng1 (tCons ta tNil)) σ H Ps (rangeD 0 n.toNat) := fun H0 s0 R q =>
  ha H0 s0 _ fun v H1 s1 rv => by
    cases rv.int
    refine ⟨n, rfl, h1, ?_, q _ _ s1 (iter_range (by omega))⟩
    rw [line_eq] at h2
    omega
theorem evRng2 {i j : Int} {b c : Bool} (ha : EvD K ta σ H Ps b (.int i)) (hb : EvD K tb σ H Ps c (.int j)) (h1 : -(2 ^ 62) ≤ i ∧ i < 2 ^ 62 ∧ -(2 ^ 62) ≤ j ∧ j < 2 ^ 62) (h2 : j - i ≤ (sizeLine : Int)) : EvI K (iRng2 (tCons ta (tCons tb tNil))) σ H Ps (rangeD i (j - i).toNat) := fun H0 s0 R q =>
  ha H0 s0 _ fun v H1 s1 rv => hb H1 (s0.trans s1) _ fun w H2 s2 rw => by
    cases rv.int
    cases rw.int
    exact ⟨i, j, rfl, h1, q _ _ (s1.trans s2) (iter_range (by omega))⟩
end
end Tq

/-! Tq, part I: expressions. -/
namespace Tq
open PySem L2 Res

/-! ### small facts -/
theorem hide_upd_in {H : Hp} {p : Addr} {o : HO} {Ps : List Addr} (h : p ∈ Ps) : hide (upd H p o) Ps = hide H Ps := by
  funext a
  by_cases ha : a ∈ Ps
  · rw [hide_in ha, hide_in ha]
  · rw [hide_out ha, hide_out ha, upd_ne (fun z : a = p => ha (by rw [z]; exact h))]
def wipeE (env : En) : List Nat → En
  | [] => env
  | v :: vs => (wipeE env vs).set v none
theorem wipeE_eq (env : En) : ∀ vs, (wipeE env vs).length = env.length
  | [] => rfl
  | v :: vs => by unfold wipeE; rw [List.length_set, wipeE_eq env vs]
theorem wipeE_some {env : En} {i : Nat} {x : D} : ∀ {vs : List Nat}, (wipeE env vs)[i]? = some (some x) → env[i]? = some (some x) ∧ i ∉ vs
  | [], h => ⟨h, by simp⟩
  | v :: vs, h => by
    unfold wipeE at h
    by_cases hi : v = i
    · subst hi
      by_cases hv : v < (wipeE env vs).length
      · rw [List.getElem?_set_self hv] at h; cases h
      · rw [List.getElem?_eq_none (by simpa using hv)] at h; cases h
    · rw [List.getElem?_set_ne hi] at h
      obtain ⟨h1, h2⟩ := wipeE_some h
      exact ⟨h1, by simp only [List.mem_cons, not_or]; exact ⟨fun e => hi e.symm, h2⟩⟩
theorem wipeE_out {env : En} {i : Nat} : ∀ {vs : List Nat}, i ∉ vs → (wipeE env vs)[i]? = env[i]?
  | [], _ => rfl
  | v :: vs, h => by
    unfold wipeE
    simp only [List.mem_cons, not_or] at h
    rw [List.getElem?_set_ne (Ne.symm h.1), wipeE_out h.2]
theorem wipe_get {σ : St} {i : Nat} : ∀ {vs : List Nat}, i ∈ vs → (wipe σ vs)[i]? = if i < σ.length then some none else none
  | [], h => by simp at h
  | v :: vs, h => by
    unfold wipe
    by_cases hi : v = i
    · subst hi
      rw [List.getElem?_set]
      simp [wipe_length]
    · rw [List.getElem?_set_ne hi]
      exact wipe_get ((List.mem_cons.mp h).resolve_left fun z => hi z.symm)
theorem wipe_same {a b : St} {vs : List Nat} (h : Out vs a b) : wipe a vs = wipe b vs := by
  apply List.ext_getElem?
  intro i
  by_cases hi : i ∈ vs
  · rw [wipe_get hi, wipe_get hi, h.1]
  · rw [wipe_out hi, wipe_out hi, h.2 i hi]
theorem wipe_wipe {σ : St} {vs : List Nat} : wipe (wipe σ vs) vs = wipe σ vs := wipe_same ⟨wipe_length σ vs, fun i hi => wipe_out hi⟩
theorem EnvR.wipe {K : PySem.W.Frag} {M : List Nat} {H : Hp} {Ps : List Addr} {σ : St} {env : En} (r : EnvR K M H Ps σ env) (vs : List Nat) : EnvR K M H Ps (L2.wipe σ vs) (wipeE env vs) where
  get := fun i d h => by
    obtain ⟨h1, h2⟩ := wipeE_some h
    rw [wipe_out h2]
    exact r.get i d h1
  inj := fun i j p d e hi hj hij h1 h2 h3 h4 => by
    obtain ⟨a1, a2⟩ := wipeE_some h1
    obtain ⟨b1, b2⟩ := wipeE_some h2
    rw [wipe_out a2] at h3
    rw [wipe_out b2] at h4
    exact r.inj i j p d e hi hj hij a1 b1 h3 h4
  dom := r.dom
  len := by rw [wipe_length, wipeE_eq, r.len]
theorem out_nil {α : Type} {a b : List α} (h : Out [] a b) : a = b := List.ext_getElem? fun i => h.2 i (by simp)
mutual
theorem put_out : ∀ {t : Tg} {d : D} {R : List Nat} {a b a' : En}, Out (t.slots ++ R) a b → t.put d a = .ok a' → ∃ b', t.put d b = .ok b' ∧ Out R a' b'
  | .nm i, d, R, a, b, a', h, e => by
    cases e
    refine ⟨_, rfl, by simp [h.1], fun j hj => ?_⟩
    by_cases hij : i = j
    · subst hij
      rw [List.getElem?_set, List.getElem?_set]
      simp [h.1]
    · rw [List.getElem?_set_ne hij, List.getElem?_set_ne hij]
      exact h.2 j (by simp [Tg.slots, hj, Ne.symm hij])
  | .tu ts, d, R, a, b, a', h, e => by
    cases d with
    | tuple ds => exact puts_out (t := ts) (ds := ds) h e
    | _ => cases e
theorem puts_out : ∀ {t : Tgs} {ds : List D} {R : List Nat} {a b a' : En}, Out (t.slots ++ R) a b → t.put ds a = .ok a' → ∃ b', t.put ds b = .ok b' ∧ Out R a' b'
  | .nil, [], R, a, b, a', h, e => by cases e; exact ⟨b, rfl, by simpa [Tgs.slots] using h⟩
  | .nil, _ :: _, _, _, _, _, _, e => by simp [Tgs.put] at e
  | .cons _ _, [], _, _, _, _, _, e => by simp [Tgs.put] at e
  | .cons t ts, d :: ds, R, a, b, a', h, e => by
    simp only [Tgs.put] at e
    cases q : t.put d a with
    | ok a1 =>
      rw [q] at e
      obtain ⟨b1, e1, o1⟩ := put_out (t := t) (d := d) (R := ts.slots ++ R) (by simpa [Tgs.slots] using h) q
      obtain ⟨b2, e2, o2⟩ := puts_out (t := ts) (ds := ds) o1 e
      exact ⟨b2, by simp [Tgs.put, e1, e2], o2⟩
    | exc _ _ => rw [q] at e; cases e
    | bad => rw [q] at e; cases e
end
theorem put_wipe {t : Tg} {d : D} {a a' : En} (e : t.put d a = .ok a') : t.put d (wipeE a t.slots) = .ok a' := by
  obtain ⟨b', e1, o⟩ := put_out (R := []) (b := wipeE a t.slots) ⟨(wipeE_eq a _).symm, fun i hi => (wipeE_out (by simpa using hi)).symm⟩ e
  rw [e1, out_nil o]
theorem eachD_get {f : D → Res (Option D)} : ∀ {ds : List D} {r : List D} {i : Nat} {d : D}, eachD f ds = .ok r → ds[i]? = some d → ∃ o, f d = .ok o
  | [], _, _, _, _, e => by simp at e
  | x :: xs, r, i, d, h, e => by
    simp only [eachD] at h
    cases q : f x with
    | ok o =>
      rw [q] at h
      simp only [bind_ok] at h
      cases q2 : eachD f xs with
      | ok r2 =>
        cases i with
        | zero => simp at e; subst e; exact ⟨o, q⟩
        | succ i => exact eachD_get (i := i) q2 (by simpa using e)
      | exc _ _ => rw [q2] at h; cases h
      | bad => rw [q2] at h; cases h
    | exc _ _ => rw [q] at h; cases h
    | bad => rw [q] at h; cases h
theorem eachD_snoc {f : D → Res (Option D)} {d : D} {o : Option D} (hd : f d = .ok o) : ∀ {xs : List D} {r : List D}, eachD f xs = .ok r → eachD f (xs ++ [d]) = .ok (r ++ o.toList)
  | [], r, h => by
    cases h
    simp only [List.nil_append, eachD, hd, bind_ok]
    cases o <;> rfl
  | x :: xs, r, h => by
    simp only [eachD] at h
    cases q : f x with
    | ok p =>
      rw [q] at h
      simp only [bind_ok] at h
      cases q2 : eachD f xs with
      | ok r2 =>
        rw [q2] at h
        cases h
        simp only [List.cons_append, eachD, q, bind_ok, eachD_snoc hd q2]
        cases p <;> rfl
      | exc _ _ => rw [q2] at h; cases h
      | bad => rw [q2] at h; cases h
    | exc _ _ => rw [q] at h; cases h
    | bad => rw [q] at h; cases h
theorem starsAny {S : Sx} {env : Env} {pos : Pos} : ∀ {as : IEs} {es : List Expr}, chkEs S as es = true → (backTo pos (starEach es env)).any (·.1) = false
  | .nil, [], _ => rfl
  | .nil, _ :: _, h => by simp [chkEs] at h
  | .cons _ _, [], h => by simp [chkEs] at h
  | .cons a as, e :: es, h => by
    simp only [chkEs, Bool.and_eq_true] at h
    rw [star1 h.1.1.1]
    show (false || (backTo pos (starEach es env)).any (·.1)) = false
    rw [starsAny h.2]; rfl
theorem evalEs_len {ρ : Nat → List D → Res D} {S : Sx} {env : En} : ∀ {as : IEs} {es : List Expr} {ds : List D}, chkEs S as es = true → evalEs ρ as env = .ok ds → ds.length = es.length
  | .nil, [], _, _, e => by simp only [evalEs] at e; cases e; rfl
  | .nil, _ :: _, _, h, _ => by simp [chkEs] at h
  | .cons _ _, [], _, h, _ => by simp [chkEs] at h
  | .cons a as, e :: es, ds, h, he => by
    simp only [chkEs, Bool.and_eq_true] at h
    simp only [evalEs] at he
    cases q : evalE ρ a env with
    | ok d =>
      rw [q] at he
      simp only [bind_ok] at he
      cases q2 : evalEs ρ as env with
      | ok r => rw [q2] at he; cases he; rw [List.length_cons, List.length_cons, evalEs_len h.2 q2]
      | exc _ _ => rw [q2] at he; cases he
      | bad => rw [q2] at he; cases he
    | exc _ _ => rw [q] at he; cases he
    | bad => rw [q] at he; cases he
/-- a comparison's answer is a truth -/
theorem inB_bool {neg : Bool} {d e z : D} : ((inB d e).bind fun t => Res.ok (PyData.bool (if neg then !t else t))) = .ok z → ∃ t, z = .bool t := fun h => by
  cases q : inB d e with
  | ok t => rw [q] at h; cases h; exact ⟨_, rfl⟩
  | exc _ _ => rw [q] at h; cases h
  | bad => rw [q] at h; cases h
theorem cmp_bool : ∀ {op : Op2} {c : CmpOp} {d e z : D}, cmpOf op = some c → op2 op d e = .ok z → ∃ t, z = .bool t
  | .eq, _, d, e, z, _, h => by
    have h : (if eqOk d e then Res.ok (PyData.bool (PyData.eqv d e)) else .bad) = .ok z := h
    split at h <;> cases h; exact ⟨_, rfl⟩
  | .ne, _, d, e, z, _, h => by
    have h : (if eqOk d e then Res.ok (PyData.bool (!PyData.eqv d e)) else .bad) = .ok z := h
    split at h <;> cases h; exact ⟨_, rfl⟩
  | .lt, _, d, e, z, _, h => by cases d <;> cases e <;> first | (cases h; done) | (cases h; exact ⟨_, rfl⟩)
  | .le, _, d, e, z, _, h => by cases d <;> cases e <;> first | (cases h; done) | (cases h; exact ⟨_, rfl⟩)
  | .gt, _, d, e, z, _, h => by cases d <;> cases e <;> first | (cases h; done) | (cases h; exact ⟨_, rfl⟩)
  | .ge, _, d, e, z, _, h => by cases d <;> cases e <;> first | (cases h; done) | (cases h; exact ⟨_, rfl⟩)
  | .is, _, d, e, z, _, h => by cases e <;> first | (cases h; done) | (cases h; exact ⟨_, rfl⟩)
  | .isnot, _, d, e, z, _, h => by cases e <;> first | (cases h; done) | (cases h; exact ⟨_, rfl⟩)
  | .in_, _, d, e, z, _, h => inB_bool (neg := false) h
  | .notin, _, d, e, z, _, h => inB_bool (neg := true) h
  | .add, _, _, _, _, h, _ | .sub, _, _, _, _, h, _ | .mul, _, _, _, _, h, _ | .mod, _, _, _, _, h, _ | .fdiv, _, _, _, _, h, _ | .pow, _, _, _, _, h, _ | .idx, _, _, _, _, h, _ | .fm, _, _, _, _, h, _ | .to, _, _, _, _, h, _ | .min2, _, _, _, _, h, _ | .max2, _, _, _, _, h, _ | .index, _, _, _, _, h, _ | .join, _, _, _, _, h, _ | .count, _, _, _, _, h, _ | .dzip, _, _, _, _, h, _ | .tzip, _, _, _, _, h, _ => by cases h
theorem bind_split {α β : Type} {r : Res α} {f : α → Res β} {b : β} (h : r.bind f = .ok b) : ∃ a, r = .ok a ∧ f a = .ok b := by
  cases r with
  | ok a => exact ⟨a, rfl, h⟩
  | exc _ _ => cases h
  | bad => cases h
theorem tame_split {α : Type} {r : Res α} {a : α} (h : r.tame = .ok a) : r = .ok a := by
  cases r with
  | ok b => exact h
  | exc _ _ => cases h
  | bad => cases h
theorem andE_ok {op : BoolOp} {e x y : Expr} (h : andE op e = some (x, y)) : ∃ b rest p, e = .BoolOp op (x :: b :: rest) p ∧ y = (match rest with | [] => b | c :: r => .BoolOp op (b :: c :: r) p) := by
  unfold andE at h
  split at h
  · split at h
    · rename_i hc
      have hc := eq_of_beq hc
      subst hc
      cases h
      exact ⟨_, _, _, rfl, rfl⟩
    · cases h
  · cases h
theorem pe_rest {X : Cx} {op : BoolOp} {b : Expr} {rest : List Expr} {p : Pos} {t : TE} (h : PE X (match rest with | [] => b | c :: r => .BoolOp op (b :: c :: r) p) t) : PE X (.BoolOp op (b :: rest) p) t := by
  cases rest with
  | nil => exact pe_one h
  | cons c r => exact h
theorem pw_rest {X : Cx} {op : BoolOp} {b : Expr} {rest : List Expr} {p : Pos} {t : TT} (h : PT X (match rest with | [] => b | c :: r => .BoolOp op (b :: c :: r) p) t) : PW X (.BoolOp op (b :: rest) p) t := by
  cases rest with
  | nil =>
    cases op with
    | And => exact pw_and1 h
    | Or => exact pw_or1 h
  | cons c r => exact ⟨fun whole pins s σ H Q I q => h.run pins s σ H Q I q⟩

/-! ### new things -/
/-- u is a new thing, and nothing else leads to it -/
def Fr (K : PySem.W.Frag) (H H' : Hp) (Ps : List Addr) (u : V) : D → Prop
  | .list ds => ∃ p xs, u = .ref p ∧ H p = none ∧ H' p = some (.lst xs) ∧ RpAll K (hide H' (p :: Ps)) xs ds ∧ ds.length ≤ sizeLine
  | .dict kvs => ∃ p ks, u = .ref p ∧ H p = none ∧ H' p = some (.dK ks) ∧ RpKV K (hide H' (p :: Ps)) ks kvs ∧ kvs.length ≤ sizeLine
  | _ => False
def EvF (K : PySem.W.Frag) (t : TE) (σ : St) (H : Hp) (Ps : List Addr) (d : D) : Prop :=
  ∀ H0, Same H H0 → ∀ Q : VK, (∀ v H1, Same H0 H1 → Fr K H0 H1 Ps v d → Q v H1) → t σ H0 Q
theorem hide_more {H : Hp} {Ps : List Addr} {p : Addr} : Same (hide H (p :: Ps)) (hide H Ps) := fun a o h => by
  obtain ⟨h1, h2⟩ := hide_some h
  rw [hide_out fun zz => h1 (List.mem_cons_of_mem _ zz)]
  exact h2
theorem hide_new {H : Hp} {Ps : List Addr} {p : Addr} {o : HO} (h : H p = none) : Same (hide H Ps) (hide (upd H p o) (p :: Ps)) := fun a u q => by
  obtain ⟨h1, h2⟩ := hide_some q
  have ne : a ≠ p := ne_of_none h2 h
  rw [hide_out (by simp [ne, h1]), upd_ne ne]; exact h2
theorem Fr.rp {K : PySem.W.Frag} {H H' : Hp} {Ps : List Addr} {u : V} {d : D} (h : Fr K H H' Ps u d) (dom : ∀ q ∈ Ps, H q ≠ none) : Rp K (hide H' Ps) u d := by
  cases d with
  | list ds =>
    obtain ⟨p, xs, rfl, h1, h2, h3, h4⟩ := h
    exact .lst (by rw [hide_out (not_hid dom h1)]; exact h2) (h3.mono hide_more) h4
  | dict kvs =>
    obtain ⟨p, xs, rfl, h1, h2, h3, h4⟩ := h
    exact .dct (.inl (by rw [hide_out (not_hid dom h1)]; exact h2)) (h3.mono hide_more) h4
  | _ => exact False.elim h
theorem EvF.ev {K : PySem.W.Frag} {t : TE} {σ : St} {H : Hp} {Ps : List Addr} {d : D} (h : EvF K t σ H Ps d) (dom : ∀ q ∈ Ps, H q ≠ none) : EvD K t σ H Ps false d := fun H0 s0 Q q =>
  h H0 s0 Q fun v H1 s1 f => q v H1 s1 (.of (f.rp (dom_same dom s0)))

/-! ### a comprehension -/
section
variable {K : PySem.W.Frag} {M : List Nat}
theorem evCompF {t : Tg} {wi : TI} {tt : TT} {te : TE} {σ : St} {H : Hp} {env : En} {Ps : List Addr} {ds r : List D} {f : D → Res (Option D)} {vs : List Nat} (hvs : vs = t.slots)
    (re : EnvR K M H Ps σ env) (hi : EvI K wi σ H Ps ds) (ht : TgOk K M t (tgR K t)) (hr : eachD f ds = .ok r)
    (hf : ∀ d o, f d = .ok o → ∃ env', t.put d env = .ok env' ∧ ∀ σ' H' Ps', EnvR K M H' Ps' σ' env' → ∃ b, EvB tt σ' H' b ∧ (b = true → ∃ y, o = some y ∧ EvD K te σ' H' Ps' false y) ∧ (b = false → o = none)) :
    EvF K (tLc wi (tgR K t) tt te vs) σ H Ps (.list r) := by
  subst hvs
  intro H0 s0 Q q
  refine hi H0 s0 _ fun J H1 s1 it D hD => ?_
  obtain ⟨z, G, Y, w, stab, yl⟩ := it
  have re1 : EnvR K M H1 Ps σ env := re.same (s0.trans s1)
  have dom1 := re1.dom
  have nD : D ∉ Ps := not_hid dom1 hD
  -- what is kept
  have kp : ∀ Hi : Hp, Same H1 Hi → (∃ o, Hi D = some o) → Keep Ps H1 (D :: Ps) Hi := fun Hi s ⟨o, ho⟩ => {
    view := fun a u h => by
      obtain ⟨h1, h2⟩ := hide_some h
      have ne : a ≠ D := ne_of_none h2 hD
      rw [hide_out (by simp [ne, h1])]
      exact s _ _ h2
    priv := fun p hp => ⟨List.mem_cons_of_mem _ hp, ((Keep.same dom1 s).priv p hp).2⟩
    dom := fun a ha e => by
      rcases List.mem_cons.mp ha with rfl | ha
      · rw [ho] at e; cases e
      · exact dom1 a ha (s.free e) }
  refine lc_it w (fun i Hi => Same H1 Hi ∧ ∃ acc ri, Hi D = some (.lst acc) ∧ eachD f (ds.take i) = .ok ri ∧ RpAll K (hide Hi (D :: Ps)) acc ri ∧ acc.length ≤ i) ?_ ?_ ?_ ?_
  · exact ⟨same_upd hD, [], [], upd_same, rfl, .nil, Nat.le_refl _⟩
  · rintro i Hi hle ⟨s, acc, ri, ha, _⟩
    exact stab (D :: Ps) Hi (kp Hi s ⟨_, ha⟩).view
  · rintro i x Hi H' hlt ⟨s, acc, ri, ha, he, ra, hl⟩ y
    have k := kp Hi s ⟨_, ha⟩
    obtain ⟨s2, d, hd, rx⟩ := yl i (D :: Ps) Hi x H' hlt k.view k.dom y
    obtain ⟨o, ho⟩ := eachD_get hr hd
    obtain ⟨env', hput, rest⟩ := hf d o ho
    have k' := kp H' (s.trans s2) ⟨_, s2 _ _ ha⟩
    have rw' : EnvR K M H' (D :: Ps) (wipe σ t.slots) (wipeE env t.slots) := (re1.keep k').wipe _
    refine ht x (wipe σ t.slots) H' (D :: Ps) _ env' d _ rw' rx (put_wipe hput) fun σ2 ou r2 => ⟨by rw [wipe_same ou, wipe_wipe], ?_⟩
    obtain ⟨b, hb, h1, h2⟩ := rest σ2 H' (D :: Ps) r2
    have htake : ds.take (i + 1) = ds.take i ++ [d] := by
      rw [List.take_add_one, hd]; rfl
    refine hb H' (Same.refl _) _ fun H3 s3 => ?_
    cases b with
    | true =>
      obtain ⟨yv, rfl, hy⟩ := h1 rfl
      refine iteT (hy H3 s3 _ fun u H4 s4 ru => ?_)
      have hD4 : H4 D = some (.lst acc) := s4 _ _ (s3 _ _ (s2 _ _ ha))
      refine ⟨acc, hD4, by omega, ?_, acc ++ [u], ri ++ [yv], upd_same, ?_, ?_, ?_⟩
      · intro a oo h
        rw [upd_ne (ne_of_none h hD)]
        exact s4 _ _ (s3 _ _ (s2 _ _ (s _ _ h)))
      · rw [htake]; exact eachD_snoc ho he
      · rw [hide_upd_in (by simp)]
        exact (ra.mono (hide_mono (s2.trans (s3.trans s4)) _)).append (.cons ru.clean .nil)
      · rw [List.length_append]; simp; omega
    | false =>
      refine iteF ⟨s.trans (s2.trans s3), acc, ri, s3 _ _ (s2 _ _ ha), ?_, ra.mono (hide_mono (s2.trans s3) _), by omega⟩
      rw [htake]
      have := eachD_snoc (h2 rfl ▸ ho) he
      simpa using this
  · rintro Hn ⟨s, acc, ri, ha, he, ra, hl⟩
    rw [List.take_length, hr] at he
    cases he
    have hD0 : H0 D = none := s1.free hD
    refine q _ _ (s1.trans s) ⟨D, acc, rfl, hD0, ha, ra, ?_⟩
    have := ra.length
    omega
theorem evComp {t : Tg} {wi : TI} {tt : TT} {te : TE} {σ : St} {H : Hp} {env : En} {Ps : List Addr} {ds r : List D} {f : D → Res (Option D)} {vs : List Nat} (hvs : vs = t.slots)
    (re : EnvR K M H Ps σ env) (hi : EvI K wi σ H Ps ds) (ht : TgOk K M t (tgR K t)) (hr : eachD f ds = .ok r)
    (hf : ∀ d o, f d = .ok o → ∃ env', t.put d env = .ok env' ∧ ∀ σ' H' Ps', EnvR K M H' Ps' σ' env' → ∃ b, EvB tt σ' H' b ∧ (b = true → ∃ y, o = some y ∧ EvD K te σ' H' Ps' false y) ∧ (b = false → o = none)) :
    EvD K (tLc wi (tgR K t) tt te vs) σ H Ps false (.list r) := (evCompF hvs re hi ht hr hf).ev re.dom
end
end Tq

/-! Tq, part X: enumerate of tuples, zip of lists and tuples. -/
namespace Tq
open PySem L2 Res
theorem meets_enumerate_newB1 {v : Value} {o : Obj} {H : Heap → Prop} (B : Begins v o H) :
    Meets (Builtin.«enumerate.__new__» ⟨[.type "enumerate", v], []⟩) (fun _ R s => H s.heap ∧
      R (.ok (.ret (.ref (s.heap.push o).objs.size))) { s with heap := (s.heap.push o).push { cls := .type "enumerate", data := .fields #[.none, .bool false, .ref s.heap.objs.size, rawInt 0, .none, .none] } }) :=
  .of_wp fun prog w A R s h => by
    obtain ⟨hp, g, d, tk, os⟩ := s; obtain ⟨h1, h⟩ := h
    have hsub := sub_enumerate
    have q1 : ∀ {A' : Around} {E : Value → Shared → Prop} {Q : Value → Shared → Prop}, Q (.ref hp.objs.size) ⟨hp.push o, g, d, tk, os⟩ → wpAny (model prog w) A' (pyIter v) Q E ⟨hp, g, d, tk, os⟩ :=
      fun q => B.iter prog w _ _ ⟨hp, g, d, tk, os⟩ _ h1 q
    wp_walk using q1
    refine wpAny_stack_any fun st => wpAny_pure ?_
    split
    · rename_i c _ _ _ _ _
      cases (c == Value.type "enumerate")
      · wp_walk using q1
        exact ⟨_, rfl, h⟩
      · wp_walk using q1
        exact ⟨_, rfl, h⟩
    · wp_walk using q1
      exact ⟨_, rfl, h⟩
section
variable {prog : Program} {w : World} {A : Around} {E : Value → Shared → Prop} {s : Shared}
/-- enumerate(v): its two new cells -/
theorem enum_begins1 {v : Value} {o : Obj} {H : Heap → Prop} {Q : Value → Shared → Prop} (B : Begins v o H) (h1 : H s.heap)
    (h : ∀ h', IsEnum h' (s.heap.objs.size + 1) s.heap.objs.size 0 .none → h'.get? s.heap.objs.size = some o → h'.objs.size = s.heap.objs.size + 2 →
      (∀ b o, s.heap.get? b = some o → h'.get? b = some o) → Q (.ref (s.heap.objs.size + 1)) { s with heap := h' }) :
    wpAny (model prog w) A (call (.type "enumerate") [v]) Q E s := by
  refine callType_new F.called_enumerate (by decide) (F.typeCall_enumerate_1 _) (F.newCall_enumerate_1 _) (fun obj => F.args_object_init_2 obj _) F.entry_enumerate_new
    (meets_enumerate_newB1 B) ⟨h1, ?_⟩
  have hz : (s.heap.push o).objs.size = s.heap.objs.size + 1 := Heap.size_push ..
  show _ ∧ _
  rw [hz]
  have he : IsEnum ((s.heap.push o).push { cls := .type "enumerate", data := .fields #[.none, .bool false, .ref s.heap.objs.size, rawInt 0, .none, .none] }) (s.heap.objs.size + 1) s.heap.objs.size 0 .none := by
    have := Heap.get?_push_size (s.heap.push o) (o := { cls := .type "enumerate", data := .fields #[.none, .bool false, .ref s.heap.objs.size, rawInt 0, .none, .none] }) rfl
    rw [hz] at this; exact this
  refine ⟨⟨_, he, rfl⟩, h _ he (Heap.get?_push_of_some _ (Heap.get?_push_size _ B.free)) (by rw [Heap.size_push, hz]) fun b o x => Heap.get?_push_of_some _ (Heap.get?_push_of_some _ x)⟩
end
/-- the list or tuple at a, each item in a new pair -/
def IteB (t : Bool) (K : PySem.W.Frag) (a : Addr) : It :=
  ⟨fun i H => ∃ (xs : List V) (x : V), SqB t K H a xs ∧ xs[i]? = some x, fun i H v H' => ∃ (T : Addr) (x : V) (o : Obj), v = .ref T ∧ H T = none ∧ o.dict = none ∧ H' = upd H T (.frz o (.tup [.int (i : Nat), x])) ∧ ∀ xs, SqB t K H a xs → xs[i]? = some x, fun i H => ∃ xs : List V, SqB t K H a xs ∧ xs.length = i⟩
theorem seqB_enum {t : Bool} {h : Heap} {e it a : Addr} {k : Int} {old : Value} {its : Array Value} (he : IsEnum h e it k old) (p : SeqB t h a its) : e ≠ a := fun z => by
  cases t with
  | true =>
    obtain ⟨o2, g2, c2, _⟩ := p
    rw [← z, show h.get? e = _ from he] at g2
    cases g2
    exact absurd (show Value.type "enumerate" = Value.type "tuple" from c2) (by decide +kernel)
  | false =>
    obtain ⟨o2, g2, c2, _⟩ := p
    rw [← z, show h.get? e = _ from he] at g2
    cases g2
    exact absurd (show Value.type "enumerate" = Value.type "list" from c2) (by decide +kernel)
theorem turn_enumB {t : Bool} {P : Program} {w : World} {K : PySem.W.Frag} {elts : List Expr} {kk : Nat} {tpos : Pos} (a e it : Addr) :
    Turn P w K (.Tuple elts kk tpos) (IteB t K a) [e, it] e (fun i h => (∃ old, IsEnum h e it ((i : Nat) : Int) old) ∧ ItrB t h it a i ∧ e ≠ it) where
  mem := by simp
  obj := fun i h st b hb => by
    obtain ⟨⟨old, he⟩, hi, _⟩ := st
    have e' : b = e ∨ b = it := by simpa using hb
    rcases e' with z | z
    · rw [z]; exact ⟨_, he, fun v q => nomatch q⟩
    · rw [z]; exact itrB_obj hi
  keep := fun i h h' st k => let ⟨⟨old, he⟩, hi, hne⟩ := st; ⟨⟨old, k e (by simp) _ he⟩, itrB_at hi fun o q => k it (by simp) o q, hne⟩
  item := by
    intro X hP hw hK hc i pins s σ H E I hf st hg
    subst hP hw hK
    obtain ⟨⟨old, he⟩, hit, hne⟩ := st
    obtain ⟨xs, x, hq, hx⟩ := hg
    obtain ⟨its, rv, p, hz⟩ := seqB_of I hq
    obtain ⟨u, hu, ru⟩ := rv.get hx
    have hel : e < s.heap.objs.size := Heap.lt_size he
    have hil : it < s.heap.objs.size := by obtain ⟨_, q, _⟩ := itrB_obj hit; exact Heap.lt_size q
    have nai : a ≠ it := seqB_ne hit p
    have nae : e ≠ a := seqB_enum he p
    have D := drawsB (prog := X.prog) (w := X.w) (A := X.A.in1) t (show X.A.in1.handled = none from I.ok.hd hc) it a nai its.toArray
    have hlt : i < its.toArray.size := by
      obtain ⟨h1, _⟩ := List.getElem?_eq_some_iff.mp hu
      simpa using h1
    refine wpAny_pyNext_enum_itemD D he ⟨hit, p⟩ hlt hne (by simp [hne, nae]) fun x' h' tk hP ho hs' hT hsz hk => ?_
    have ex : x' = u := by
      have h1 : its.toArray[i]? = some u := by simpa using hu
      have hP : its.toArray[i]? = some x' := hP
      rw [h1] at hP; cases hP; rfl
    subst ex
    refine ⟨_, rfl, wpAny_letOwnedTupleGo_enum (s := { s with heap := h', toks := tk + 1 }) ho fun h'' he' sb => ?_⟩
    have hT2 : h''.get? s.heap.objs.size = some { cls := .type "tuple", data := .seq #[.int i tk, x'] } := (sb.2 _ (Nat.ne_of_gt hel)).trans hT
    have new : ObjOk X.prog X.w (upd H s.heap.objs.size (.frz { cls := .type "tuple", data := .seq #[.int i tk, x'] } (.tup [.int (i : Nat), x]))) h'' s.heap.objs.size (.frz { cls := .type "tuple", data := .seq #[.int i tk, x'] } (.tup [.int (i : Nat), x])) :=
      ⟨hT2, by show 2 ≤ sizeLine; decide, [.int i tk, x'], .cons ⟨_, rfl⟩ (.cons ru .nil), ⟨_, hT2, rfl, _, rfl⟩⟩
    have I1 : Inv X pins σ (upd H s.heap.objs.size (.frz { cls := .type "tuple", data := .seq #[.int i tk, x'] } (.tup [.int (i : Nat), x]))) { s with heap := h'', toks := tk + 1 } :=
      I.turnedNew (ch := [e, it]) (fun b ob hb q => (sb.2 b (fun z => hb (by simp [z]))).trans (hk b ob (fun z => hb (by simp [z])) (fun z => hb (by simp [z])) q)) hf (Nat.le_refl _) new
    refine ⟨.ref s.heap.objs.size, _, I1, rfl, ⟨_, x, _, rfl, I.hok.fresh (Nat.le_refl _), rfl, rfl, fun ys hy => by rw [sqB_inj I hy hq]; exact hx⟩, ⟨⟨x', ?_⟩, itrB_at hs'.1 fun o q => (sb.2 it (Ne.symm hne)).trans q, hne⟩, fun b hb => ?_⟩
    · have e1 : ((i + 1 : Nat) : Int) = (i : Int) + 1 := by omega
      rw [e1]; exact he'
    · have hb' : b < s.heap.objs.size := by
        have e' : b = e ∨ b = it := by simpa using hb
        rcases e' with z | z
        · rw [z]; exact hel
        · rw [z]; exact hil
      rw [upd_ne (Nat.ne_of_lt hb')]
      exact (hf b hb).1
  done := by
    intro X hP hw hK hc i pins s σ H E I hf st hg
    subst hP hw hK
    obtain ⟨⟨old, he⟩, hit, hne⟩ := st
    obtain ⟨xs, hq, hx⟩ := hg
    obtain ⟨its, rv, p, hz⟩ := seqB_of I hq
    obtain ⟨f0, f1, f2, f3, f4, f5⟩ := hf it (by simp)
    have hl := rv.length
    have nai : a ≠ it := seqB_ne hit p
    have D := drawsB (prog := X.prog) (w := X.w) (A := X.A.in1) t (show X.A.in1.handled = none from I.ok.hd hc) it a nai its.toArray
    have hi : i = its.toArray.size := by simp; omega
    rw [hi] at hit
    exact wpAny_pyNext_enum_endD D he ⟨hit, p⟩ fun h' eb => ⟨rfl, I.turned (t' := s.toks) (fun b o hb q => eb b o hb q) f0 f1 f3 f4 f5⟩
  self := fun A i s Q E st h => let ⟨⟨_, he⟩, _⟩ := st; wpAny_pyIter_enum he h
def iEnumB (t : Bool) (K : PySem.W.Frag) (ta : TA) : TI := fun σ H R => ta σ H fun vs H1 => ∃ a xs, vs = [.ref a] ∧ SqB t K H1 a xs ∧ R (IteB t K a) H1
theorem pi_enumB (t : Bool) {X : Cx} {e : Expr} {ta : TA} {p pos tpos : Pos} {elts : List Expr} {kk : Nat} (hg : Gl X "enumerate") (hm : X.mg "enumerate" = none) (ha : PA X [e] ta) (hs : starEach [e] X.env = [(false, eval e X.env)] := by rfl) :
    PI X (.Tuple elts kk tpos) (.Call (.Name "enumerate" p) [e] [] pos) (iEnumB t X.K ta) := by
  refine ⟨fun pins s σ H R I h => ?_⟩
  refine PyProof.Rows.Call_ (ld_blt I hg hm PyProof.Rows.boot_enumerate (PyProof.Rows.callWith_type1 (thn (ha.run pos pins s σ H _ I h) fun us s1 ⟨vs, H1, I1, r1, q1⟩ => ?_) hs rfl))
  obtain ⟨a, xs, ex, hq, q⟩ := q1
  subst ex
  cases r1 with
  | cons r rr =>
    cases rr
    cases r
    obtain ⟨its, rv, p', hz⟩ := seqB_of I1 hq
    refine enum_begins1 (beginsB t a its.toArray) p' fun h' he hit hsz hk => wpAny_pyIter_enum he ?_
    have I2 : Inv X pins σ H1 { s1 with heap := h' } := I1.kept (t' := s1.toks) hk
    refine ⟨s1.heap.objs.size + 1, [s1.heap.objs.size + 1, s1.heap.objs.size], _, _, H1, rfl, I2, turn_enumB (t := t) a (s1.heap.objs.size + 1) s1.heap.objs.size, ⟨⟨.none, he⟩, itrB_new hit, Nat.succ_ne_self _⟩, fun b hb => ?_, q⟩
    have e' : b = s1.heap.objs.size + 1 ∨ b = s1.heap.objs.size := by simpa using hb
    have hle : s1.heap.objs.size ≤ b := by
      rcases e' with z | z
      · rw [z]; exact Nat.le_add_right _ _
      · rw [z]; exact Nat.le_refl _
    exact I1.fpOk hle (I1.hok.fresh hle)
/-! ### zip -/
def ItzB (t1 t2 : Bool) (K : PySem.W.Frag) (a b : Addr) : It :=
  ⟨fun i H => ∃ (xs ys : List V) (x y : V), SqB t1 K H a xs ∧ SqB t2 K H b ys ∧ xs[i]? = some x ∧ ys[i]? = some y,
    fun i H v H' => ∃ (T : Addr) (x y : V) (o : Obj), v = .ref T ∧ H T = none ∧ o.dict = none ∧ H' = upd H T (.frz o (.tup [x, y])) ∧ (∀ xs, SqB t1 K H a xs → xs[i]? = some x) ∧ ∀ ys, SqB t2 K H b ys → ys[i]? = some y,
    fun i H => ∃ xs ys : List V, SqB t1 K H a xs ∧ SqB t2 K H b ys ∧ i ≤ xs.length ∧ i ≤ ys.length ∧ (i = xs.length ∨ i = ys.length)⟩
theorem turn_zipB {t1 t2 : Bool} {P : Program} {w : World} {K : PySem.W.Frag} {elts : List Expr} {kk : Nat} {tpos : Pos} {a b z TI TO i1 i2 : Addr} (S : ZipSep2 z TI TO i1 i2 [i1, a] [i2, b]) (n1 : a ≠ i1) (n2 : b ≠ i2) :
    Turn P w K (.Tuple elts kk tpos) (ItzB t1 t2 K a b) [z, TI, TO, i1, i2] z (fun i h => IsZip h z TI TO .none ∧ IsTupOf2 h TI (.ref i1) (.ref i2) ∧ (∃ x y, IsTupOf2 h TO x y) ∧ ItrB t1 h i1 a i ∧ ItrB t2 h i2 b i) where
  mem := by simp
  obj := fun i h st c hc => by
    obtain ⟨hz, hTI, ⟨x, y, hTO⟩, h1, h2⟩ := st
    have e' : c = z ∨ c = TI ∨ c = TO ∨ c = i1 ∨ c = i2 := by simpa using hc
    rcases e' with q | q | q | q | q
    · rw [q]; exact ⟨_, hz, fun v q => nomatch q⟩
    · rw [q]; exact ⟨_, hTI, fun v q => nomatch q⟩
    · rw [q]; exact ⟨_, hTO, fun v q => nomatch q⟩
    · rw [q]; exact itrB_obj h1
    · rw [q]; exact itrB_obj h2
  keep := fun i h h' st k => by
    obtain ⟨hz, hTI, ⟨x, y, hTO⟩, h1, h2⟩ := st
    exact ⟨k z (by simp) _ hz, k TI (by simp) _ hTI, ⟨x, y, k TO (by simp) _ hTO⟩, itrB_at h1 fun o q => k i1 (by simp) o q, itrB_at h2 fun o q => k i2 (by simp) o q⟩
  item := by
    intro X hP hw hK hc i pins s σ H E I hf st hg
    subst hP hw hK
    obtain ⟨hz, hTI, ⟨x0, y0, hTO⟩, h1, h2⟩ := st
    obtain ⟨xs, ys, x, y, hqx, hqy, hx, hy⟩ := hg
    obtain ⟨its, rv, p, _⟩ := seqB_of I hqx
    obtain ⟨its2, rv2, p2, _⟩ := seqB_of I hqy
    obtain ⟨u, hu, ru⟩ := rv.get hx
    obtain ⟨u2, hu2, ru2⟩ := rv2.get hy
    have hzl : z < s.heap.objs.size := Heap.lt_size hz
    have D1 := drawsB (prog := X.prog) (w := X.w) (A := X.A.in1) t1 (show X.A.in1.handled = none from I.ok.hd hc) i1 a n1 its.toArray
    have D2 := drawsB (prog := X.prog) (w := X.w) (A := X.A.in1) t2 (show X.A.in1.handled = none from I.ok.hd hc) i2 b n2 its2.toArray
    have l1 : i < its.toArray.size := by
      obtain ⟨q, _⟩ := List.getElem?_eq_some_iff.mp hu
      simpa using q
    have l2 : i < its2.toArray.size := by
      obtain ⟨q, _⟩ := List.getElem?_eq_some_iff.mp hu2
      simpa using q
    refine wpAny_pyNext_zipD2_item S D1 D2 hz hTI hTO ⟨h1, p⟩ ⟨h2, p2⟩ l1 l2 fun w1 w2 h' tk e1 e2 z' TO' h1' h2' hT hsz hk => ?_
    have ex1 : w1 = u := by
      have q : its.toArray[i]? = some u := by simpa using hu
      rw [q] at e1; cases e1; rfl
    have ex2 : w2 = u2 := by
      have q : its2.toArray[i]? = some u2 := by simpa using hu2
      rw [q] at e2; cases e2; rfl
    subst ex1 ex2
    refine ⟨_, rfl, wpAny_letOwnedTupleGo_zip (s := { s with heap := h', toks := tk }) z' fun h'' z'' sb => ?_⟩
    have hT2 : h''.get? s.heap.objs.size = some { cls := .type "tuple", data := .seq #[w1, w2] } := (sb.2 _ (Nat.ne_of_gt hzl)).trans hT
    have new : ObjOk X.prog X.w (upd H s.heap.objs.size (.frz { cls := .type "tuple", data := .seq #[w1, w2] } (.tup [x, y]))) h'' s.heap.objs.size (.frz { cls := .type "tuple", data := .seq #[w1, w2] } (.tup [x, y])) :=
      ⟨hT2, by show 2 ≤ sizeLine; decide, [w1, w2], .cons ru (.cons ru2 .nil), ⟨_, hT2, rfl, _, rfl⟩⟩
    have I1 : Inv X pins σ (upd H s.heap.objs.size (.frz { cls := .type "tuple", data := .seq #[w1, w2] } (.tup [x, y]))) { s with heap := h'', toks := tk } :=
      I.turnedNew (ch := [z, TI, TO, i1, i2]) (fun c o hb q => (sb.2 c (fun q' => hb (by simp [q']))).trans (hk c o (fun q' => hb (by simp [q'])) (fun q' => hb (by simp [q'])) (fun q' => hb (by simp [q'])) (fun q' => hb (by simp [q'])) q)) hf (Nat.le_refl _) new
    refine ⟨.ref s.heap.objs.size, _, I1, rfl, ⟨_, x, y, _, rfl, I.hok.fresh (Nat.le_refl _), rfl, rfl, fun l hl => by rw [sqB_inj I hl hqx]; exact hx, fun l hl => by rw [sqB_inj I hl hqy]; exact hy⟩, ⟨z'', ?_, ⟨w1, w2, ?_⟩, ?_, ?_⟩, fun c hcm => ?_⟩
    · exact (sb.2 _ S.TIz).trans (hk _ _ S.TIz S.TITO S.TIi1 S.TIi2 hTI)
    · exact (sb.2 _ S.TOz).trans TO'
    · exact itrB_at h1'.1 fun o q => (sb.2 _ (Ne.symm S.zi1)).trans q
    · exact itrB_at h2'.1 fun o q => (sb.2 _ (Ne.symm S.zi2)).trans q
    · have hlt : c < s.heap.objs.size := by
        have e' : c = z ∨ c = TI ∨ c = TO ∨ c = i1 ∨ c = i2 := by simpa using hcm
        rcases e' with q | q | q | q | q
        · rw [q]; exact hzl
        · rw [q]; exact Heap.lt_size hTI
        · rw [q]; exact Heap.lt_size hTO
        · rw [q]; obtain ⟨_, e1, _⟩ := itrB_obj h1; exact Heap.lt_size e1
        · rw [q]; obtain ⟨_, e2, _⟩ := itrB_obj h2; exact Heap.lt_size e2
      rw [upd_ne (Nat.ne_of_lt hlt)]
      exact (hf c hcm).1
  done := by
    intro X hP hw hK hc i pins s σ H E I hf st hg
    subst hP hw hK
    obtain ⟨hz, hTI, ⟨x0, y0, hTO⟩, h1, h2⟩ := st
    obtain ⟨xs, ys, hqx, hqy, le1, le2, hend⟩ := hg
    obtain ⟨its, rv, p, _⟩ := seqB_of I hqx
    obtain ⟨its2, rv2, p2, _⟩ := seqB_of I hqy
    have l1 := rv.length
    have l2 := rv2.length
    have D1 := drawsB (prog := X.prog) (w := X.w) (A := X.A.in1) t1 (show X.A.in1.handled = none from I.ok.hd hc) i1 a n1 its.toArray
    have D2 := drawsB (prog := X.prog) (w := X.w) (A := X.A.in1) t2 (show X.A.in1.handled = none from I.ok.hd hc) i2 b n2 its2.toArray
    refine wpAny_pyNext_zipD2_end S D1 D2 hz hTI hTO ⟨h1, p⟩ ⟨h2, p2⟩ (by simp; omega) (by simp; omega) (by simp; omega) fun h' tk hk => ⟨rfl, I.turnedL (ch := [z, TI, TO, i1, i2]) (fun c o hb q =>
      hk c o (fun q' => hb (by simp [q'])) (fun q' => hb (by simp [q'])) (fun q' => hb (by simp [q'])) (fun q' => hb (by simp [q'])) q) hf⟩
  self := fun A i s Q E st h => wpAny_pyIter_zip st.1 h
def iZipB (t1 t2 : Bool) (K : PySem.W.Frag) (ta : TA) : TI := fun σ H R => ta σ H fun vs H1 => ∃ a b xs ys, vs = [.ref a, .ref b] ∧ SqB t1 K H1 a xs ∧ SqB t2 K H1 b ys ∧ R (ItzB t1 t2 K a b) H1
theorem pi_zipB (t1 t2 : Bool) {X : Cx} {e e2 : Expr} {ta : TA} {p pos tpos : Pos} {elts : List Expr} {kk : Nat} (hg : Gl X "zip") (hm : X.mg "zip" = none) (ha : PA X [e, e2] ta)
    (hs : starEach [e, e2] X.env = (false, eval e X.env) :: starEach [e2] X.env := by rfl) (hpl : (backTo pos (starEach [e2] X.env)).any (·.1) = false := by rfl) :
    PI X (.Tuple elts kk tpos) (.Call (.Name "zip" p) [e, e2] [] pos) (iZipB t1 t2 X.K ta) := by
  refine ⟨fun pins s σ H R I h => ?_⟩
  refine PyProof.Rows.Call_ (ld_blt I hg hm PyProof.Rows.boot_zip (PyProof.Rows.callWith_type1 (thn (ha.run pos pins s σ H _ I h) fun us s1 ⟨vs, H1, I1, r1, q1⟩ => ?_) hs hpl))
  obtain ⟨a, b, xs, ys, ex, hqx, hqy, q⟩ := q1
  subst ex
  cases r1 with
  | cons r rr =>
    cases rr with
    | cons r' rr =>
      cases rr
      cases r
      cases r'
      have fresh5 : ∀ c, c ∈ [s1.heap.objs.size + 4, s1.heap.objs.size + 2, s1.heap.objs.size + 3, s1.heap.objs.size, s1.heap.objs.size + 1] → FpOk X pins H1 c := fun c hcm => by
        have e' : c = s1.heap.objs.size + 4 ∨ c = s1.heap.objs.size + 2 ∨ c = s1.heap.objs.size + 3 ∨ c = s1.heap.objs.size ∨ c = s1.heap.objs.size + 1 := by simpa using hcm
        have hle : s1.heap.objs.size ≤ c := by
          rcases e' with z | z | z | z | z
          · rw [z]; exact Nat.le_add_right _ _
          · rw [z]; exact Nat.le_add_right _ _
          · rw [z]; exact Nat.le_add_right _ _
          · rw [z]; exact Nat.le_refl _
          · rw [z]; exact Nat.le_add_right _ _
        exact I1.fpOk hle (I1.hok.fresh hle)
      obtain ⟨its, rv, p1, la⟩ := seqB_of I1 hqx
      obtain ⟨its2, rv2, p2, lb⟩ := seqB_of I1 hqy
      refine zip_begins2 (beginsB t1 a its.toArray) (beginsB t2 b its2.toArray) p1 p2 fun h' hz hTI hTO h1 h2 hsz hk => wpAny_pyIter_zip hz ?_
      have I2 : Inv X pins σ H1 { s1 with heap := h' } := I1.kept (t' := s1.toks) hk
      exact ⟨s1.heap.objs.size + 4, [s1.heap.objs.size + 4, s1.heap.objs.size + 2, s1.heap.objs.size + 3, s1.heap.objs.size, s1.heap.objs.size + 1], _, _, H1, rfl, I2, turn_zipB (sep_new s1.heap.objs.size a b la lb) (Nat.ne_of_lt la) (Nat.ne_of_lt (Nat.lt_succ_of_lt lb)), ⟨hz, hTI, ⟨_, _, hTO⟩, itrB_new h1, itrB_new h2⟩, fresh5, q⟩
/-! ### what they give -/
def YPairF (xs ys : Nat → Option V) : Nat → Hp → V → Hp → Prop := fun i H v H' => ∃ (T : Addr) (x y : V) (o : Obj), v = .ref T ∧ H T = none ∧ o.dict = none ∧ H' = upd H T (.frz o (.tup [x, y])) ∧ xs i = some x ∧ ys i = some y
theorem walk_enumB {t : Bool} {K : PySem.W.Frag} {a : Addr} {xs : List V} : Walk (IteB t K a) xs.length (fun H => SqB t K H a xs) (YPairF (fun i => some (.int (i : Nat))) (fun i => xs[i]?)) := by
  refine ⟨fun i _ hi q => ⟨xs, xs[i], q, by simp [hi]⟩, fun _ q => ⟨xs, q, rfl⟩, fun i H v H' _ q y => ?_⟩
  obtain ⟨T, x, o, h1, h2, h0, h3, h4⟩ := y
  exact ⟨T, .int (i : Nat), x, o, h1, h2, h0, h3, rfl, h4 xs q⟩
theorem walk_zipB {t1 t2 : Bool} {K : PySem.W.Frag} {a b : Addr} {xs ys : List V} {n : Nat} (hn : n = min xs.length ys.length) : Walk (ItzB t1 t2 K a b) n (fun H => SqB t1 K H a xs ∧ SqB t2 K H b ys) (YPairF (fun i => xs[i]?) (fun i => ys[i]?)) := by
  subst hn
  refine ⟨fun i _ hi q => ?_, fun _ q => ⟨xs, ys, q.1, q.2, by omega, by omega, by omega⟩, fun i H v H' _ q y => ?_⟩
  · have h1 : i < xs.length := by omega
    have h2 : i < ys.length := by omega
    exact ⟨xs, ys, xs[i], ys[i], q.1, q.2, by simp [h1], by simp [h2]⟩
  · obtain ⟨T, x, z, o, h1, h2, h0, h3, h4, h5⟩ := y
    exact ⟨T, x, z, o, h1, h2, h0, h3, h4 xs q.1, h5 ys q.2⟩
theorem sqB_hide {t : Bool} {K : PySem.W.Frag} {H H' : Hp} {Ps : List Addr} {a : Addr} {xs : List V} (h : SqB t K (hide H Ps) a xs) (hs : ∀ a xs, SqL K (hide H Ps) a xs → SqL K H' a xs) (hs' : ∀ a xs, SqT K (hide H Ps) a xs → SqT K H' a xs) : SqB t K H' a xs := by
  cases t with
  | true => exact hs' a xs h
  | false => exact hs a xs h
section
variable {K : PySem.W.Frag} {σ : St} {H : Hp} {Ps : List Addr} {ta tb : TE} {d e : D} {ds es : List D}
theorem enumD_len : ∀ (ds : List D) (k : Nat), (enumD k ds).length = ds.length
  | [], _ => rfl
  | d :: ds, k => by simp [enumD, enumD_len ds]
theorem enumD_get : ∀ (ds : List D) (k i : Nat) {d : D}, ds[i]? = some d → (enumD k ds)[i]? = some (.tuple [.int ((k + i : Nat) : Int), d])
  | [], _, _, _, h => by simp at h
  | x :: ds, k, 0, d, h => by
    simp only [List.getElem?_cons_zero] at h
    cases h
    rfl
  | x :: ds, k, i + 1, d, h => by
    simp only [List.getElem?_cons_succ] at h
    have := enumD_get ds (k + 1) i h
    simp only [enumD, List.getElem?_cons_succ, this]
    congr 4
    push_cast
    omega
theorem zipD_len : ∀ (ds es : List D), (zipD ds es).length = min ds.length es.length
  | [], _ => by simp [zipD]
  | _ :: _, [] => by simp [zipD]
  | d :: ds, e :: es => by
    simp only [zipD, List.length_cons, zipD_len ds es]
    omega
theorem zipD_get : ∀ (ds es : List D) (i : Nat) {d e : D}, ds[i]? = some d → es[i]? = some e → (zipD ds es)[i]? = some (.tuple [d, e])
  | [], _, _, _, _, h, _ => by simp at h
  | _ :: _, [], _, _, _, _, h => by simp at h
  | x :: ds, y :: es, 0, d, e, h, h' => by
    simp only [List.getElem?_cons_zero] at h h'
    cases h; cases h'; rfl
  | x :: ds, y :: es, i + 1, d, e, h, h' => by
    simp only [List.getElem?_cons_succ] at h h'
    simp only [zipD, List.getElem?_cons_succ, zipD_get ds es i h h']
theorem pair_new {Ps' : List Addr} {Hi : Hp} {T : Addr} {o : Obj} {x y : V} {d e : D} (ho : o.dict = none) (dom : ∀ q ∈ Ps', Hi q ≠ none) (hT : Hi T = none) (rx : Rp K (hide Hi Ps') x d) (ry : Rp K (hide Hi Ps') y e) :
    Same Hi (upd Hi T (.frz o (.tup [x, y]))) ∧ Rp K (hide (upd Hi T (.frz o (.tup [x, y]))) Ps') (.ref T) (.tuple [d, e]) :=
  ⟨same_upd hT, new_tup ho dom hT (.cons rx (.cons ry .nil)) (by show 2 ≤ sizeLine; decide)⟩
def isT : D → Bool
  | .tuple _ => true
  | _ => false
/-- a value that is a list or a tuple -/
theorem seq_val {v : V} {us : List D} {t : Bool} (rv : RL K H Ps false v d) (hd : seqOf d = .ok us) (ht : isT d = t) : ∃ (a : Addr) (xs : List V), v = .ref a ∧ RpAll K (hide H Ps) xs us ∧ us.length ≤ sizeLine ∧ ∀ Ps' H', Same (hide H Ps) (hide H' Ps') → SqB t K H' a xs := by
  subst ht
  cases d with
  | list xs =>
    cases hd
    cases rv.clean with
    | lst h r z => exact ⟨_, _, rfl, r, z, fun Ps' H' s => SqL.of (hide_le _ _ _ _ (s _ _ h))⟩
  | tuple xs =>
    cases hd
    cases rv.clean with
    | tup h r z => exact ⟨_, _, rfl, r, z, fun Ps' H' s => seqT (hide_le _ _) (seqT s h.sq)⟩
  | _ => cases hd
def iEnumA (K : PySem.W.Frag) (ta : TA) : TI := fun σ H R => iEnumB true K ta σ H R ∨ iEnumB false K ta σ H R
theorem evEnum {us : List D} (_dom : ∀ q ∈ Ps, H q ≠ none) (ha : EvD K ta σ H Ps false d) (hd : seqOf d = .ok us) : EvI K (iEnumA K (tCons ta tNil)) σ H Ps (enumD 0 us) := fun H0 s0 R q => by
  have go : ∀ t : Bool, isT d = t → iEnumB t K (tCons ta tNil) σ H0 R := fun t ht => by
    refine ha H0 s0 _ fun v H1 s1 rv => ?_
    obtain ⟨a, xs, rfl, r, z, q1⟩ := seq_val rv hd ht
    refine ⟨a, xs, rfl, q1 Ps H1 (Same.refl _), q _ _ s1 ⟨by rw [enumD_len]; exact z, fun H => SqB t K H a xs, _, by rw [enumD_len, ← r.length]; exact walk_enumB, fun Ps' H' s => q1 Ps' H' s, fun i Ps' Hi x H' hi s dom y => ?_⟩⟩
    obtain ⟨T, x0, y0, o, rfl, hT, ho, rfl, h1, h2⟩ := y
    cases h1
    obtain ⟨d, g1, g2⟩ := r.get h2
    obtain ⟨p1, p2⟩ := pair_new ho dom hT (.int (i : Nat)) (g2.mono s)
    exact ⟨p1, _, enumD_get _ 0 i g1, by rw [Nat.zero_add]; exact p2⟩
  cases h1 : isT d
  · exact .inr (go _ h1)
  · exact .inl (go _ h1)
def iZipAll (K : PySem.W.Frag) (ta : TA) : TI := fun σ H R => (iZipB true true K ta σ H R ∨ iZipB true false K ta σ H R) ∨ (iZipB false true K ta σ H R ∨ iZipB false false K ta σ H R)
theorem iter_zip {t1 t2 : Bool} {a b : Addr} {xs ys : List V} {us ws : List D} {H1 H2 : Hp} (s12 : Same H1 H2) (r1 : RpAll K (hide H1 Ps) xs us) (z1 : us.length ≤ sizeLine) (q1 : ∀ Ps' H', Same (hide H1 Ps) (hide H' Ps') → SqB t1 K H' a xs)
    (r2 : RpAll K (hide H2 Ps) ys ws) (q2 : ∀ Ps' H', Same (hide H2 Ps) (hide H' Ps') → SqB t2 K H' b ys) : IterOk K (ItzB t1 t2 K a b) H2 Ps (zipD us ws) := by
  have h12 := hide_mono s12 Ps
  refine ⟨by rw [zipD_len]; omega, fun H => SqB t1 K H a xs ∧ SqB t2 K H b ys, _, by rw [zipD_len, ← r1.length, ← r2.length]; exact walk_zipB rfl, fun Ps' H' s => ⟨q1 Ps' H' (h12.trans s), q2 Ps' H' s⟩, fun i Ps' Hi x H' hi s dom y => ?_⟩
  obtain ⟨T, x0, y0, o, rfl, hT, ho, rfl, g1, g2⟩ := y
  obtain ⟨d1, e1, p1⟩ := r1.get g1
  obtain ⟨d2, e2, p2⟩ := r2.get g2
  obtain ⟨o1, o2⟩ := pair_new ho dom hT (p1.mono (h12.trans s)) (p2.mono s)
  exact ⟨o1, _, zipD_get _ _ i e1 e2, o2⟩
theorem evZip {us ws : List D} (_dom : ∀ q ∈ Ps, H q ≠ none) (ha : EvD K ta σ H Ps false d) (hb : EvD K tb σ H Ps false e) (hd : seqOf d = .ok us) (he : seqOf e = .ok ws) : EvI K (iZipAll K (tCons ta (tCons tb tNil))) σ H Ps (zipD us ws) := fun H0 s0 R q => by
  have go : ∀ t1 t2 : Bool, isT d = t1 → isT e = t2 → iZipB t1 t2 K (tCons ta (tCons tb tNil)) σ H0 R := fun t1 t2 h1 h2 => by
    refine ha H0 s0 _ fun v H1 s1 rv => hb H1 (s0.trans s1) _ fun w H2 s2 rw => ?_
    obtain ⟨a, xs, rfl, r1, z1, q1⟩ := seq_val rv hd h1
    obtain ⟨b, ys, rfl, r2, z2, q2⟩ := seq_val rw he h2
    exact ⟨a, b, xs, ys, rfl, q1 Ps H2 (hide_mono s2 _), q2 Ps H2 (Same.refl _), q _ _ (s1.trans s2) (iter_zip s2 r1 z1 q1 r2 q2)⟩
  cases h1 : isT d <;> cases h2 : isT e
  · exact .inr (.inr (go _ _ h1 h2))
  · exact .inr (.inl (go _ _ h1 h2))
  · exact .inl (.inr (go _ _ h1 h2))
  · exact .inl (.inl (go _ _ h1 h2))
end
end Tq

/-! Tq, part J: every expression that the text holds runs as its image does. -/
namespace Tq
open PySem L2 Res
section
variable (k : Nat) (defs : Nat → Option FDef) (K : PySem.W.Frag)
def OkE (S : Sx) (ie : IE) (e : Expr) : Prop := ∃ t, (∀ X, Gd S k defs K X → PE X e t) ∧ ∀ σ H env Ps d, EnvR K S.M H Ps σ env → evalE (callF defs k) ie env = .ok d → EvD K t σ H Ps (lv S.M ie) d
def OkB (S : Sx) (ie : IE) (e : Expr) : Prop := ∃ t, (∀ X, Gd S k defs K X → PT X e t) ∧ ∀ σ H env Ps b, EnvR K S.M H Ps σ env → (evalE (callF defs k) ie env).bind truth = .ok b → EvB t σ H b
def OkA (S : Sx) (as : IEs) (es : List Expr) : Prop := ∃ t, (∀ X, Gd S k defs K X → PA X es t) ∧ ∀ σ H env Ps ds, EnvR K S.M H Ps σ env → evalEs (callF defs k) as env = .ok ds → EvA K t σ H Ps ds
def OkI (S : Sx) (it : IT) (tg e : Expr) : Prop := ∃ wi, (∀ X, Gd S k defs K X → PI X tg e wi) ∧ ∀ σ H env Ps ds, EnvR K S.M H Ps σ env → evalIT (callF defs k) it env = .ok ds → EvI K wi σ H Ps ds
end
section
variable {k : Nat} {defs : Nat → Option FDef} {K : PySem.W.Frag} {S : Sx}
theorem okB_of {ie : IE} {e : Expr} (h : OkE k defs K S ie e) (p : plainTest e = true) : OkB k defs K S ie e := by
  obtain ⟨t, h1, h2⟩ := h
  refine ⟨fun σ H Q => t σ H fun x H' => ∃ c, TruV K x H' c ∧ Q c H', fun X g => ?_, fun σ H env Ps b r e => ?_⟩
  · have := g.hK
    subst this
    exact pt_truth (h1 X g) fun whole => test_plain p whole
  · obtain ⟨d, e1, e2⟩ := bind_split e
    exact evT r.dom (h2 σ H env Ps d r e1) e2
theorem okE_var {i : Nat} {e : Expr} (h : chkE S (.var i) e = true) : OkE k defs K S (.var i) e := by
  cases e with
  | Name x p =>
    have h : visB S i x = true := by simpa [chkE] using h
    refine ⟨tVar i, fun X g => ?_, fun σ H env Ps d r e => ?_⟩
    · obtain ⟨a, b, c, d⟩ := g.vis h
      exact pe_var a b c d
    · simp only [evalE] at e
      cases q : env[i]? with
      | none => rw [q] at e; cases e
      | some o =>
        rw [q] at e
        cases o with
        | none => cases e
        | some x =>
          cases e
          intro H0 s0 Q qq
          obtain ⟨v, h1, h2, _⟩ := (r.same s0).get i _ q
          exact ⟨v, h1, qq v H0 (Same.refl _) h2⟩
  | _ => simp [chkE] at h
theorem okE_c {ie : IE} {e : Expr} {v : V} {d : D} (hl : lv S.M ie = false) (hp : ∀ X, PE X e (tC v)) (he : ∀ env, evalE (callF defs k) ie env = .ok d) (hr : ∀ H, Rp K H v d) : OkE k defs K S ie e :=
  ⟨tC v, fun X _ => hp X, fun σ H env Ps d' r e => by
    rw [he env] at e; cases e
    exact fun H0 s0 Q q => q v H0 (Same.refl _) (.of (hr _))⟩
theorem okE_o2 {op : Op2} {a b : IE} {e x y : Expr} (ha : OkE k defs K S a x) (hb : OkE k defs K S b y) (h : sh2 S op e = some (x, y)) : OkE k defs K S (.o2 op a b) e := by
  obtain ⟨ta, a1, a2⟩ := ha
  obtain ⟨tb, b1, b2⟩ := hb
  obtain ⟨t, t1, t2⟩ := sem2_ok (k := k) (defs := defs) (K := K) (ta := ta) (tb := tb) h
  refine ⟨t, fun X g => t1 X g (a1 X g) (b1 X g), fun σ H env Ps d r e => ?_⟩
  simp only [evalE] at e
  obtain ⟨u, e1, e⟩ := bind_split e
  obtain ⟨w, e2, e⟩ := bind_split e
  exact t2 σ H Ps _ _ u w d r.dom (a2 σ H env Ps u r e1) (b2 σ H env Ps w r e2) e
theorem okE_o1 {op : Op1} {a : IE} {e x : Expr} (ha : OkE k defs K S a x) (h : sh1 S op e = some x) : OkE k defs K S (.o1 op a) e := by
  obtain ⟨ta, a1, a2⟩ := ha
  obtain ⟨t, t1, t2⟩ := sem1_ok (k := k) (defs := defs) (K := K) (ta := ta) h
  refine ⟨t, fun X g => t1 X g (a1 X g), fun σ H env Ps d r e => ?_⟩
  simp only [evalE] at e
  obtain ⟨u, e1, e⟩ := bind_split e
  exact t2 σ H Ps _ u d r.dom (a2 σ H env Ps u r e1) e
theorem okE_isi {ty : Ty} {a : IE} {e x : Expr} (ha : OkE k defs K S a x) (h : isiAll S ty e = some x) : OkE k defs K S (.isi a ty) e := by
  obtain ⟨ta, a1, a2⟩ := ha
  obtain ⟨t, t1, t2⟩ := Sem1.isiA (k := k) (defs := defs) (K := K) (ta := ta) h
  refine ⟨t, fun X g => t1 X g (a1 X g), fun σ H env Ps d r e => ?_⟩
  simp only [evalE] at e
  obtain ⟨u, e1, e⟩ := bind_split e
  exact t2 σ H Ps _ u d r.dom (a2 σ H env Ps u r e1) e
theorem okB_cmp {op : Op2} {a b : IE} {e x y : Expr} (ha : OkE k defs K S a x) (hb : OkE k defs K S b y) (h : cmpE op e = some (x, y)) : OkB k defs K S (.o2 op a b) e := by
  obtain ⟨ta, a1, a2⟩ := ha
  obtain ⟨tb, b1, b2⟩ := hb
  obtain ⟨c, p, rfl, h1, h2⟩ := cmpE_ok h
  obtain ⟨r, ho, hr⟩ := cmp_ok (S := S) (k := k) (defs := defs) (K := K) h1
  refine ⟨tTest (tOp r ta tb), fun X g => pt_cmpR (ho X g) (a1 X g) (b1 X g) (mark_plain h2), fun σ H env Ps bb re e => ?_⟩
  obtain ⟨z, e, et⟩ := bind_split e
  simp only [evalE] at e
  obtain ⟨u, e1, e⟩ := bind_split e
  obtain ⟨w, e2, e⟩ := bind_split e
  obtain ⟨t, rfl⟩ := cmp_bool h1 e
  cases et
  exact evTest (ev2 re.dom hr (a2 σ H env Ps u re e1) (b2 σ H env Ps w re e2) e)
theorem evChain {r r' : R2} {ta tb tc : TE} {op op' : Op2} {σ : St} {H : Hp} {Ps : List Addr} {b b' b'' : Bool} {d e f x : D} {t : Bool} (dom : ∀ q ∈ Ps, H q ≠ none) (hr : R2ok K (op2 op) r) (hr' : R2ok K (op2 op') r')
    (ha : EvD K ta σ H Ps b d) (hb : EvD K tb σ H Ps b' e) (h1 : op2 op d e = .ok (.bool t)) (hc : t = true → EvD K tc σ H Ps b'' f ∧ op2 op' e f = .ok x) (hn : t = false → x = .bool false) : EvD K (tChain r r' ta tb tc) σ H Ps false x := fun H0 s0 Q q =>
  ha H0 s0 _ fun v H1 s1 rv => hb H1 (s0.trans s1) _ fun w H2 s2 rw => hr v w H2 Ps d e _ b b' _ (dom_same dom ((s0.trans s1).trans s2)) (rv.same (dom_same dom (s0.trans s1)) s2) rw h1 fun u H3 s3 ru => by
    cases ru
    refine ⟨t, rfl, ?_⟩
    cases t with
    | true =>
      obtain ⟨c1, c2⟩ := hc rfl
      refine iteT (c1 H3 (((s0.trans s1).trans s2).trans s3) _ fun w' H4 s4 rw' => ?_)
      have d2 := dom_same dom ((s0.trans s1).trans s2)
      exact hr' w w' H4 Ps e f x b' b'' Q (dom_same d2 (s3.trans s4)) (rw.same d2 (s3.trans s4)) rw' c2 fun u H5 s5 ru => q u H5 ((((s1.trans s2).trans s3).trans s4).trans s5) (.of ru)
    | false =>
      refine iteF (q _ H3 ((s1.trans s2).trans s3) ?_)
      rw [hn rfl]
      exact .of (.bl _)
theorem lastMarks_of {o p : CmpOp} {y z : Expr} (h : noSet z = true) : lastMarks [o, p] [y, z] = false := mark_plain h
theorem chain_eval {ρ : Nat → List D → Res D} {o p : Op2} {a b c : IE} {env : En} {z : D} {o' : CmpOp} (ho : cmpOf o = some o') (e : evalE ρ (.chain o p a b c) env = .ok z) : ∃ u w t, evalE ρ a env = .ok u ∧ evalE ρ b env = .ok w ∧ op2 o u w = .ok (.bool t) ∧ (t = true → ∃ f, evalE ρ c env = .ok f ∧ op2 p w f = .ok z) ∧ (t = false → z = .bool false) := by
  simp only [evalE] at e
  obtain ⟨u, e1, e⟩ := bind_split e
  obtain ⟨w, e2, e⟩ := bind_split e
  obtain ⟨q, e3, e⟩ := bind_split e
  obtain ⟨t, rfl⟩ := cmp_bool ho e3
  refine ⟨u, w, t, e1, e2, e3, fun ht => ?_, fun ht => ?_⟩
  · subst ht
    obtain ⟨f, e4, e5⟩ := bind_split e
    exact ⟨f, e4, e5⟩
  · subst ht
    cases e; rfl
theorem okE_chain {o p : Op2} {a b c : IE} {x y z : Expr} {o' p' : CmpOp} {pos : Pos} (ha : OkE k defs K S a x) (hb : OkE k defs K S b y) (hc : OkE k defs K S c z) (h1 : cmpOf o = some o') (h2 : cmpOf p = some p') (hz : noSet z = true) :
    OkE k defs K S (.chain o p a b c) (.Compare x [o', p'] [y, z] pos) ∧ OkB k defs K S (.chain o p a b c) (.Compare x [o', p'] [y, z] pos) := by
  obtain ⟨ta, a1, a2⟩ := ha
  obtain ⟨tb, b1, b2⟩ := hb
  obtain ⟨tc, c1, c2⟩ := hc
  obtain ⟨r, ho, hr⟩ := cmp_ok (S := S) (k := k) (defs := defs) (K := K) h1
  obtain ⟨r', ho', hr'⟩ := cmp_ok (S := S) (k := k) (defs := defs) (K := K) h2
  have ev : ∀ σ H env Ps d, EnvR K S.M H Ps σ env → evalE (callF defs k) (.chain o p a b c) env = .ok d → EvD K (tChain r r' ta tb tc) σ H Ps false d := fun σ H env Ps d re e => by
    obtain ⟨u, w, t, e1, e2, e3, e4, e5⟩ := chain_eval h1 e
    cases t with
    | true =>
      obtain ⟨f, f1, f2⟩ := e4 rfl
      exact evChain re.dom hr hr' (a2 σ H env Ps u re e1) (b2 σ H env Ps w re e2) e3 (fun _ => ⟨c2 σ H env Ps f re f1, f2⟩) (fun h => nomatch h)
    | false => exact evChain (f := .none) (b'' := false) re.dom hr hr' (a2 σ H env Ps u re e1) (b2 σ H env Ps w re e2) e3 (fun h => nomatch h) (fun _ => e5 rfl)
  refine ⟨⟨tChain r r' ta tb tc, fun X g => pe_chain (ho X g) (ho' X g) (a1 X g) (b1 X g) (c1 X g) (lastMarks_of hz), ev⟩, ⟨tTest (tChain r r' ta tb tc), fun X g => pt_chain (ho X g) (ho' X g) (a1 X g) (b1 X g) (c1 X g) (lastMarks_of hz), fun σ H env Ps bb re e => ?_⟩⟩
  obtain ⟨zz, e, et⟩ := bind_split e
  have := ev σ H env Ps zz re e
  obtain ⟨u, w, t, e1, e2, e3, e4, e5⟩ := chain_eval h1 e
  have hb : ∃ t, zz = .bool t := by
    cases t with
    | true => obtain ⟨f, f1, f2⟩ := e4 rfl; exact cmp_bool h2 f2
    | false => exact ⟨_, e5 rfl⟩
  obtain ⟨t', rfl⟩ := hb
  cases et
  exact evTest this
theorem okE_call {f : Nat} {es : IEs} {x : Expr} {xs : List Expr} {n : Str} {p q : Pos} {ar : Nat} (hA : OkA k defs K S es (x :: xs)) (hf : S.fnm f = some (n, ar)) (hlen : (x :: xs).length = ar) (hd : (n == ("__debug__" : Str)) = false) (hg : glB S n = true) (hc : chkEs S es (x :: xs) = true) :
    OkE k defs K S (.call f es) (.Call (.Name n p) (x :: xs) [] q) := by
  obtain ⟨t, t1, t2⟩ := hA
  refine ⟨tCallS (spF K ar (callF defs k f)) (WE (fun _ _ _ _ => False)) t, fun X g => ?_, fun σ H env Ps d r e => ?_⟩
  · obtain ⟨a, fd, ps, m1, m2, m3, F⟩ := g.fns f n ar hf
    have := g.hK
    subst this
    cases es with
    | nil => simp [chkEs] at hc
    | cons a as =>
      have hc' := hc
      simp only [chkEs, Bool.and_eq_true] at hc'
      exact pe_callS F g.room (g.gl hg) m1 m2 m3 (fun σ => passAt takes0 σ) (t1 X g) hd (star1 hc'.1.1.1) (starsAny hc'.2)
  · simp only [evalE] at e
    obtain ⟨ds, e1, e⟩ := bind_split e
    intro H0 s0 Q qq
    refine t2 σ H env Ps ds r e1 H0 s0 _ fun vs H1 s1 rv => ⟨?_, ds, Ps, d, rv, dom_same r.dom (s0.trans s1), e, fun v H2 s2 rv2 => qq v H2 (s1.trans s2) (.of rv2)⟩
    rw [rv.length, evalEs_len hc e1, hlen]
theorem okE_and {a b : IE} {e x y : Expr} (ha : OkE k defs K S a x) (hb : OkE k defs K S b y) (h : andE .And e = some (x, y)) (la : lv S.M a = false) (lb : lv S.M b = false) : OkE k defs K S (.and_ a b) e := by
  obtain ⟨ta, a1, a2⟩ := ha
  obtain ⟨tb, b1, b2⟩ := hb
  obtain ⟨c, rest, p, rfl, rfl⟩ := andE_ok h
  refine ⟨tAndT K ta tb, fun X g => ?_, fun σ H env Ps d r e => ?_⟩
  · have := g.hK
    subst this
    exact pe_andT (a1 X g) (pe_rest (b1 X g))
  · simp only [evalE] at e
    obtain ⟨u, e1, e⟩ := bind_split e
    obtain ⟨t, e2, e⟩ := bind_split e
    intro H0 s0 Q qq
    refine a2 σ H env Ps u r e1 H0 s0 _ fun v H1 s1 rv => ⟨t, tru_of rv e2, ?_⟩
    rw [la] at rv
    cases t with
    | true =>
      refine iteT ?_
      have := b2 σ H env Ps d r e
      rw [lb] at this
      exact this H1 (s0.trans s1) Q fun w H2 s2 rw => qq w H2 (s1.trans s2) rw
    | false =>
      cases e
      exact iteF (qq v H1 s1 rv)
theorem okE_or {a b : IE} {e x y : Expr} (ha : OkE k defs K S a x) (hb : OkE k defs K S b y) (h : andE .Or e = some (x, y)) (la : lv S.M a = false) (lb : lv S.M b = false) : OkE k defs K S (.or_ a b) e := by
  obtain ⟨ta, a1, a2⟩ := ha
  obtain ⟨tb, b1, b2⟩ := hb
  obtain ⟨c, rest, p, rfl, rfl⟩ := andE_ok h
  refine ⟨tOrT K ta tb, fun X g => ?_, fun σ H env Ps d r e => ?_⟩
  · have := g.hK
    subst this
    exact pe_orT (a1 X g) (pe_rest (b1 X g))
  · simp only [evalE] at e
    obtain ⟨u, e1, e⟩ := bind_split e
    obtain ⟨t, e2, e⟩ := bind_split e
    intro H0 s0 Q qq
    refine a2 σ H env Ps u r e1 H0 s0 _ fun v H1 s1 rv => ⟨t, tru_of rv e2, ?_⟩
    rw [la] at rv
    cases t with
    | true =>
      cases e
      exact iteT (qq v H1 s1 rv)
    | false =>
      refine iteF ?_
      have := b2 σ H env Ps d r e
      rw [lb] at this
      exact this H1 (s0.trans s1) Q fun w H2 s2 rw => qq w H2 (s1.trans s2) rw
theorem okB_and {a b : IE} {e x y : Expr} (ha : OkB k defs K S a x) (hb : OkB k defs K S b y) (h : andE .And e = some (x, y)) : OkB k defs K S (.and_ a b) e := by
  obtain ⟨ta, a1, a2⟩ := ha
  obtain ⟨tb, b1, b2⟩ := hb
  obtain ⟨c, rest, p, rfl, rfl⟩ := andE_ok h
  refine ⟨tAnd ta tb, fun X g => (pw_and (a1 X g) (pw_rest (b1 X g))).pt, fun σ H env Ps bb r e => ?_⟩
  obtain ⟨z, e, et⟩ := bind_split e
  simp only [evalE] at e
  obtain ⟨u, e1, e⟩ := bind_split e
  obtain ⟨t, e2, e⟩ := bind_split e
  intro H0 s0 Q qq
  refine a2 σ H env Ps t r (by rw [e1]; exact e2) H0 s0 _ fun H1 s1 => ?_
  cases t with
  | true =>
    refine iteT (b2 σ H env Ps bb r ?_ H1 (s0.trans s1) Q fun H2 s2 => qq H2 (s1.trans s2))
    have e : evalE (callF defs k) b env = .ok z := e
    rw [e]; exact et
  | false =>
    cases e
    rw [e2] at et
    cases et
    exact iteF (qq H1 s1)
theorem okB_or {a b : IE} {e x y : Expr} (ha : OkB k defs K S a x) (hb : OkB k defs K S b y) (h : andE .Or e = some (x, y)) : OkB k defs K S (.or_ a b) e := by
  obtain ⟨ta, a1, a2⟩ := ha
  obtain ⟨tb, b1, b2⟩ := hb
  obtain ⟨c, rest, p, rfl, rfl⟩ := andE_ok h
  refine ⟨tOr ta tb, fun X g => (pw_or (a1 X g) (pw_rest (b1 X g))).pt, fun σ H env Ps bb r e => ?_⟩
  obtain ⟨z, e, et⟩ := bind_split e
  simp only [evalE] at e
  obtain ⟨u, e1, e⟩ := bind_split e
  obtain ⟨t, e2, e⟩ := bind_split e
  intro H0 s0 Q qq
  refine a2 σ H env Ps t r (by rw [e1]; exact e2) H0 s0 _ fun H1 s1 => ?_
  cases t with
  | true =>
    cases e
    rw [e2] at et
    cases et
    exact iteT (qq H1 s1)
  | false =>
    refine iteF (b2 σ H env Ps bb r ?_ H1 (s0.trans s1) Q fun H2 s2 => qq H2 (s1.trans s2))
    have e : evalE (callF defs k) b env = .ok z := e
    rw [e]; exact et
theorem okB_not {a : IE} {x : Expr} {p : Pos} (ha : OkB k defs K S a x) : OkB k defs K S (.o1 .not a) (.UnaryOp .Not x p) := by
  obtain ⟨ta, a1, a2⟩ := ha
  refine ⟨tNot ta, fun X g => pt_not (a1 X g), fun σ H env Ps bb r e => ?_⟩
  obtain ⟨z, e, et⟩ := bind_split e
  simp only [evalE] at e
  obtain ⟨u, e1, e⟩ := bind_split e
  obtain ⟨t, e2, e⟩ := bind_split (show (truth u).bind (fun b => Res.ok (PyData.bool (!b))) = .ok z from e)
  cases e
  cases et
  intro H0 s0 Q qq
  exact a2 σ H env Ps t r (by rw [e1]; exact e2) H0 s0 _ fun H1 s1 => qq H1 s1
theorem okE_if {c a b : IE} {x y z : Expr} {p : Pos} (hc : OkB k defs K S c x) (ha : OkE k defs K S a y) (hb : OkE k defs K S b z) (la : lv S.M a = false) (lb : lv S.M b = false) : OkE k defs K S (.ifE c a b) (.IfExp x y z p) := by
  obtain ⟨tc, c1, c2⟩ := hc
  obtain ⟨ta, a1, a2⟩ := ha
  obtain ⟨tb, b1, b2⟩ := hb
  refine ⟨tIf tc ta tb, fun X g => pe_ifExp (c1 X g) (a1 X g) (b1 X g), fun σ H env Ps d r e => ?_⟩
  simp only [evalE] at e
  obtain ⟨u, e1, e⟩ := bind_split e
  obtain ⟨t, e2, e⟩ := bind_split e
  intro H0 s0 Q qq
  refine c2 σ H env Ps t r (by rw [e1]; exact e2) H0 s0 _ fun H1 s1 => ?_
  cases t with
  | true =>
    refine iteT ?_
    have := a2 σ H env Ps d r e
    rw [la] at this
    exact this H1 (s0.trans s1) Q fun w H2 s2 rw => qq w H2 (s1.trans s2) rw
  | false =>
    refine iteF ?_
    have := b2 σ H env Ps d r e
    rw [lb] at this
    exact this H1 (s0.trans s1) Q fun w H2 s2 rw => qq w H2 (s1.trans s2) rw
theorem okA_nil : OkA k defs K S .nil [] := ⟨tNil, fun X _ => pa_nil, fun σ H env Ps ds r e H0 s0 Q q => by
  simp only [evalEs] at e; cases e
  exact q [] H0 (Same.refl _) .nil⟩
theorem okA_cons {a : IE} {as : IEs} {e : Expr} {es : List Expr} (ha : OkE k defs K S a e) (hs : OkA k defs K S as es) (st : noStar e = true) (la : lv S.M a = false) : OkA k defs K S (.cons a as) (e :: es) := by
  obtain ⟨ta, a1, a2⟩ := ha
  obtain ⟨tb, b1, b2⟩ := hs
  refine ⟨tCons ta tb, fun X g => pa_cons (a1 X g) (b1 X g) (star1 st), fun σ H env Ps ds r e H0 s0 Q q => ?_⟩
  simp only [evalEs] at e
  obtain ⟨u, e1, e⟩ := bind_split e
  obtain ⟨us, e2, e⟩ := bind_split e
  cases e
  have := a2 σ H env Ps u r e1
  rw [la] at this
  refine this H0 s0 _ fun v H1 s1 rv => b2 σ H env Ps us r e2 H1 (s0.trans s1) _ fun vs H2 s2 rvs => q _ H2 (s1.trans s2) (.cons (rv.clean.mono (hide_mono s2 _)) rvs)
/-- a written tuple has no dict of its own -/
def tTupF (t : TA) : TE := fun σ H Q => t σ H fun xs H1 => xs.length ≤ sizeLine ∧ ∀ p o, H1 p = none → o.dict = none → Q (.ref p) (upd H1 p (.frz o (.tup xs)))
theorem pe_tupF {X : Cx} {es : List Expr} {t : TA} {x1 : Nat} {pos : Pos} (h : PA X es t) : PE X (.Tuple es x1 pos) (tTupF t) := by
  refine ⟨fun pins s σ H Q I hq => ?_⟩
  refine wpAny_Tuple_spliced (thn (h.run pos pins s σ H _ I hq) fun us s1 ⟨xs, H1, I1, r, z, q⟩ => ⟨by rw [← r.length]; exact z, ?_⟩)
  have hf : H1 s1.heap.objs.size = none := I1.hok.fresh (Nat.le_refl _)
  refine ⟨.ref s1.heap.objs.size, _, I1.laid (t' := s1.toks) (o := .frz _ (.tup xs)) (fun b u e => Heap.get?_push_of_some _ e) (Nat.le_refl _) ⟨Heap.get?_push_size _ rfl, ?_⟩, rfl, q _ _ hf rfl⟩
  exact ⟨z, us, r, ⟨_, Heap.get?_push_size _ rfl, rfl, _, rfl⟩⟩
theorem okE_tup {es : IEs} {xs : List Expr} {kk : Nat} {p : Pos} (h : OkA k defs K S es xs) (hc : chkEs S es xs = true) (hl : xs.length ≤ 1000) : OkE k defs K S (.tup es) (.Tuple xs kk p) := by
  obtain ⟨t, t1, t2⟩ := h
  refine ⟨tTupF t, fun X g => pe_tupF (t1 X g), fun σ H env Ps d r e H0 s0 Q q => ?_⟩
  simp only [evalE] at e
  obtain ⟨ds, e1, e⟩ := bind_split e
  cases e
  refine t2 σ H env Ps ds r e1 H0 s0 _ fun vs H1 s1 rv => ?_
  have z : ds.length ≤ sizeLine := by rw [evalEs_len hc e1]; exact Nat.le_of_lt (small1000 hl)
  refine ⟨by rw [rv.length]; exact z, fun p o hp ho => q _ _ (s1.trans (same_upd hp)) (.of (new_tup ho (dom_same r.dom (s0.trans s1)) hp rv z))⟩
theorem okE_lst {es : IEs} {xs : List Expr} {p : Pos} (h : OkA k defs K S es xs) (hc : chkEs S es xs = true) (hl : xs.length ≤ 1000) : OkE k defs K S (.lst es) (.List xs p) := by
  obtain ⟨t, t1, t2⟩ := h
  refine ⟨tLst t, fun X g => pe_lst (t1 X g), fun σ H env Ps d r e H0 s0 Q q => ?_⟩
  simp only [evalE] at e
  obtain ⟨ds, e1, e⟩ := bind_split e
  cases e
  refine t2 σ H env Ps ds r e1 H0 s0 _ fun vs H1 s1 rv => ?_
  have z : ds.length ≤ sizeLine := by rw [evalEs_len hc e1]; exact Nat.le_of_lt (small1000 hl)
  refine ⟨by rw [rv.length]; exact z, fun p hp => q _ _ (s1.trans (same_upd hp)) (.of (new_lst (dom_same r.dom (s0.trans s1)) hp rv z))⟩
/-! ### what is walked -/
theorem okI_seq {a : IE} {tg e : Expr} (ha : OkE k defs K S a e) (la : lv S.M a = false) : OkI k defs K S (.seq a) tg e := by
  obtain ⟨t, t1, t2⟩ := ha
  refine ⟨iSeq K t, fun X g => ?_, fun σ H env Ps ds r e => ?_⟩
  · have := g.hK
    subst this
    exact pi_seq (t1 X g)
  · simp only [evalIT] at e
    obtain ⟨u, e1, e⟩ := bind_split e
    have := t2 σ H env Ps u r e1
    rw [la] at this
    exact evSeq this e
theorem okI_rng1 {a : IE} {tg e x : Expr} (ha : OkE k defs K S a x) (h : rng1E S e = some x) : OkI k defs K S (.rng1 a) tg e := by
  obtain ⟨t, t1, t2⟩ := ha
  obtain ⟨p, q, rfl, h1, h2⟩ := bcall_ok (show bcall S "range" e = some x from h)
  refine ⟨iRng1 (tCons t tNil), fun X g => pi_range1 (g.gl h1) (g.free _ (by decide +kernel)) (pa_cons (t1 X g) pa_nil (star1 h2)) (star1 h2), fun σ H env Ps ds r e => ?_⟩
  simp only [evalIT] at e
  obtain ⟨u, e1, e⟩ := bind_split e
  cases u with
  | int n =>
    have e : (if decide (-(2 ^ 62) ≤ n ∧ n ≤ (sizeLine : Int)) = true then Res.ok (rangeD 0 n.toNat) else .bad) = .ok ds := e
    split at e
    · rename_i hz
      cases e
      have hz := of_decide_eq_true hz
      exact evRng1 (t2 σ H env Ps _ r e1) hz.1 hz.2
    · cases e
  | _ => cases e
theorem okI_rng2 {a b : IE} {tg e x y : Expr} (ha : OkE k defs K S a x) (hb : OkE k defs K S b y) (h : rng2E S e = some (x, y)) : OkI k defs K S (.rng2 a b) tg e := by
  obtain ⟨ta, a1, a2⟩ := ha
  obtain ⟨tb, b1, b2⟩ := hb
  unfold rng2E at h
  split at h
  · split at h
    · rename_i hc
      cases h
      obtain ⟨rfl, g1, g2, g3⟩ := hc
      refine ⟨iRng2 (tCons ta (tCons tb tNil)), fun X g => pi_range2 (g.gl g1) (g.free _ (by decide +kernel)) (pa_cons (a1 X g) (pa_cons (b1 X g) pa_nil (star1 g3)) (star1 g2)) (by rw [star1 g2, star1 g3]; rfl) (star1 g3), fun σ H env Ps ds r e => ?_⟩
      simp only [evalIT] at e
      obtain ⟨u, e1, e⟩ := bind_split e
      obtain ⟨w, e2, e⟩ := bind_split e
      cases u with
      | int i =>
        cases w with
        | int j =>
          have e : (if decide (-(2 ^ 62) ≤ i ∧ i < 2 ^ 62 ∧ -(2 ^ 62) ≤ j ∧ j < 2 ^ 62 ∧ j - i ≤ (sizeLine : Int)) = true then Res.ok (rangeD i (j - i).toNat) else .bad) = .ok ds := e
          split at e
          · rename_i hz
            cases e
            have hz := of_decide_eq_true hz
            exact evRng2 (a2 σ H env Ps _ r e1) (b2 σ H env Ps _ r e2) ⟨hz.1, hz.2.1, hz.2.2.1, hz.2.2.2.1⟩ hz.2.2.2.2
          · cases e
        | _ => cases e
      | _ => cases e
    · cases h
  · cases h
/-! ### enumerate, zip -/
theorem isTupE_ok {e : Expr} (h : isTupE e = true) : ∃ es k p, e = .Tuple es k p := by
  cases e <;> first | (cases h; done) | exact ⟨_, _, _, rfl⟩
theorem okI_enum {a : IE} {tg e x : Expr} (ha : OkE k defs K S a x) (h : bcall S "enumerate" e = some x) (ht : isTupE tg = true) (la : lv S.M a = false) : OkI k defs K S (.enum a) tg e := by
  obtain ⟨t, t1, t2⟩ := ha
  obtain ⟨p, q, rfl, h1, h2⟩ := bcall_ok h
  obtain ⟨es, kk, tp, rfl⟩ := isTupE_ok ht
  refine ⟨iEnumA K (tCons t tNil), fun X g => ?_, fun σ H env Ps ds r e => ?_⟩
  · have := g.hK
    subst this
    exact PI.or (pi_enumB true (g.gl h1) (g.free _ (by decide +kernel)) (pa_cons (t1 X g) pa_nil (star1 h2)) (star1 h2)) (pi_enumB false (g.gl h1) (g.free _ (by decide +kernel)) (pa_cons (t1 X g) pa_nil (star1 h2)) (star1 h2))
  · simp only [evalIT] at e
    obtain ⟨u, e1, e⟩ := bind_split e
    obtain ⟨us, e2, e⟩ := bind_split e
    cases e
    have := t2 σ H env Ps u r e1
    rw [la] at this
    exact evEnum r.dom this e2
theorem bcall2_ok {f : Str} {e x y : Expr} (h : bcall2 S f e = some (x, y)) : ∃ p q, e = .Call (.Name f p) [x, y] [] q ∧ glB S f = true ∧ noStar x = true ∧ noStar y = true := by
  unfold bcall2 at h
  split at h
  · split at h
    · rename_i hc
      cases h
      obtain ⟨rfl, g1, g2, g3⟩ := hc
      exact ⟨_, _, rfl, g1, g2, g3⟩
    · cases h
  · cases h
theorem okI_zip {a b : IE} {tg e x y : Expr} (ha : OkE k defs K S a x) (hb : OkE k defs K S b y) (h : bcall2 S "zip" e = some (x, y)) (ht : isTupE tg = true) (la : lv S.M a = false) (lb : lv S.M b = false) : OkI k defs K S (.zip a b) tg e := by
  obtain ⟨ta, a1, a2⟩ := ha
  obtain ⟨tb, b1, b2⟩ := hb
  obtain ⟨p, q, rfl, g1, g2, g3⟩ := bcall2_ok h
  obtain ⟨es, kk, tp, rfl⟩ := isTupE_ok ht
  refine ⟨iZipAll K (tCons ta (tCons tb tNil)), fun X g => ?_, fun σ H env Ps ds r e => ?_⟩
  · have := g.hK
    subst this
    have P : ∀ t1 t2, PI X (.Tuple es kk tp) _ (iZipB t1 t2 X.K (tCons ta (tCons tb tNil))) := fun t1 t2 => pi_zipB t1 t2 (p := p) (pos := q) (g.gl g1) (g.free _ (by decide +kernel)) (pa_cons (a1 X g) (pa_cons (b1 X g) pa_nil (star1 g3)) (star1 g2)) (star1 g2) (by rw [star1 g3]; rfl)
    exact PI.or (PI.or (P true true) (P true false)) (PI.or (P false true) (P false false))
  · simp only [evalIT] at e
    obtain ⟨u, e1, e⟩ := bind_split e
    obtain ⟨w, e2, e⟩ := bind_split e
    obtain ⟨us, e3, e⟩ := bind_split e
    obtain ⟨ws, e4, e⟩ := bind_split e
    cases e
    have h1 := a2 σ H env Ps u r e1
    have h2 := b2 σ H env Ps w r e2
    rw [la] at h1
    rw [lb] at h2
    exact evZip r.dom h1 h2 e3 e4
/-! ### comprehensions -/
theorem Gd.blk {X : Cx} (g : Gd S k defs K X) (s : Shared) (H : Hp) (scope : Scope) (C : Addr) (cl : List (Str × Addr)) (fp : List Addr) : Gd (blkS S scope) k defs K (X.blk s H scope (compEnvC scope cl C X.env) fp) where
  hK := g.hK
  N := g.N
  nd := g.nd
  sc := by
    show relS scope X.env.scope = relS scope S.sc
    rw [g.sc]
  calm := g.calm
  room := g.room
  fn := rfl
  free := g.free
  gls := g.gls
  glr := g.glr
  gld := g.gld
  fns := g.fns
theorem own_snd {t : Tg} : (ownOf S t).map (·.2) = t.slots := by
  unfold ownOf
  rw [List.map_map]
  show t.slots.map (fun i => i) = _
  simp
theorem fold_plain {e : Expr} {env : Env} (h : noSet e = true) (x : Value) : foldedSetIterable e env x = pure x := by
  cases e <;> first | rfl | cases h
theorem okE_comp {t : Tg} {it : IT} {elt : IE} {x tg i : Expr} {scope : Scope} {p : Pos} (hi : OkI k defs K S it tg i) (hx : OkE k defs K (blkS S scope) elt x) (hset : noSet i = true) (hb : blkC S.N S.sc scope (ownOf S t) = true) (ht : chkT (blkS S scope) t tg = true) (hl : lv S.M elt = false) :
    OkE k defs K S (.comp t it elt) (.ListComp x [⟨tg, i, [], 0⟩] scope p) := by
  obtain ⟨wi, i1, i2⟩ := hi
  obtain ⟨te, x1, x2⟩ := hx
  refine ⟨tLc wi (tgR K t) tYes te ((ownOf S t).map (·.2)), fun X g => ?_, fun σ H env Ps d r e => ?_⟩
  · refine pe_lc g.calm (by rw [g.N]; exact g.nd) (i1 X g) (by rw [g.N, g.sc]; exact blkOk_by hb) (fun s H C cl fp => ?_) (fun s H C cl fp => pts_nil) (fun s H C cl fp => x1 _ (g.blk s H scope C cl fp)) (fun v => fold_plain hset v)
    exact tg_pg (g.blk s H scope C cl fp) ht
  · simp only [evalE] at e
    obtain ⟨ds, e1, e⟩ := bind_split e
    obtain ⟨rr, e2, e⟩ := bind_split e
    cases e
    refine evComp own_snd r (i2 σ H env Ps ds r e1) (tg_ok (S := blkS S scope) ht) (tame_split e2) fun d o ho => ?_
    obtain ⟨env', h1, h2⟩ := bind_split ho
    obtain ⟨y, h3, h4⟩ := bind_split h2
    cases h4
    refine ⟨env', h1, fun σ' H' Ps' r' => ⟨true, fun H0 s0 Q q => q H0 (Same.refl _), fun _ => ⟨y, rfl, ?_⟩, fun z => nomatch z⟩⟩
    have := x2 σ' H' env' Ps' y r' h3
    have hl' : lv (blkS S scope).M elt = false := hl
    rw [hl'] at this
    exact this
theorem okE_compIf {t : Tg} {it : IT} {c elt : IE} {x y tg i : Expr} {scope : Scope} {p : Pos} (hi : OkI k defs K S it tg i) (hc : OkB k defs K (blkS S scope) c y) (hx : OkE k defs K (blkS S scope) elt x) (hset : noSet i = true) (hb : blkC S.N S.sc scope (ownOf S t) = true) (ht : chkT (blkS S scope) t tg = true) (hl : lv S.M elt = false) :
    OkE k defs K S (.compIf t it c elt) (.ListComp x [⟨tg, i, [y], 0⟩] scope p) := by
  obtain ⟨wi, i1, i2⟩ := hi
  obtain ⟨tt, c1, c2⟩ := hc
  obtain ⟨te, x1, x2⟩ := hx
  refine ⟨tLc wi (tgR K t) tt te ((ownOf S t).map (·.2)), fun X g => ?_, fun σ H env Ps d r e => ?_⟩
  · refine pe_lc g.calm (by rw [g.N]; exact g.nd) (i1 X g) (by rw [g.N, g.sc]; exact blkOk_by hb) (fun s H C cl fp => ?_) (fun s H C cl fp => pts_one (c1 _ (g.blk s H scope C cl fp))) (fun s H C cl fp => x1 _ (g.blk s H scope C cl fp)) (fun v => fold_plain hset v)
    exact tg_pg (g.blk s H scope C cl fp) ht
  · simp only [evalE] at e
    obtain ⟨ds, e1, e⟩ := bind_split e
    obtain ⟨rr, e2, e⟩ := bind_split e
    cases e
    refine evComp own_snd r (i2 σ H env Ps ds r e1) (tg_ok (S := blkS S scope) ht) (tame_split e2) fun d o ho => ?_
    obtain ⟨env', h1, h2⟩ := bind_split ho
    obtain ⟨u, h3, h4⟩ := bind_split h2
    obtain ⟨b, h5, h6⟩ := bind_split h4
    refine ⟨env', h1, fun σ' H' Ps' r' => ⟨b, c2 σ' H' env' Ps' b r' (by rw [h3]; exact h5), fun hb => ?_, fun hb => ?_⟩⟩
    · subst hb
      obtain ⟨y, h7, h8⟩ := bind_split (show (evalE (callF defs k) elt env').bind (fun x => Res.ok (some x)) = .ok o from h6)
      cases h8
      refine ⟨y, rfl, ?_⟩
      have := x2 σ' H' env' Ps' y r' h7
      have hl' : lv (blkS S scope).M elt = false := hl
      rw [hl'] at this
      exact this
    · subst hb
      cases h6
      rfl
end
end Tq

/-! Tq, part V: further expressions; new things. -/
namespace Tq
open PySem L2 Res
theorem PE.alt {X : Cx} {e : Expr} {t t' : TE} (h : PE X e t) (h' : PE X e t') : PE X e (fun σ H Q => t σ H Q ∨ t' σ H Q) :=
  ⟨fun pins s σ H Q I hw => hw.elim (h.run pins s σ H Q I) (h'.run pins s σ H Q I)⟩
section
variable {K : PySem.W.Frag} {M : List Nat} {H H' : Hp} {Ps : List Addr} {σ : St} {env : En}
theorem Pv.sw {v : V} {d : D} (h : Pv K H Ps v d) (e : Sw H H') (same : ∀ p ∈ Ps, H' p = H p) : Pv K H' Ps v d := by
  cases d with
  | list ds =>
    obtain ⟨p, xs, rfl, hp, q, r, z⟩ := h
    exact ⟨p, xs, rfl, hp, (same p hp).trans q, r.sw (e.hide Ps), z⟩
  | dict ds =>
    obtain ⟨p, xs, rfl, hp, q, r, z⟩ := h
    exact ⟨p, xs, rfl, hp, (same p hp).trans q, r.sw (e.hide Ps), z⟩
  | _ => exact False.elim h
theorem EnvR.sw (r : EnvR K M H Ps σ env) (e : Sw H H') (same : ∀ p ∈ Ps, H' p = H p) : EnvR K M H' Ps σ env where
  get := fun i d h => by
    obtain ⟨v, h1, h2, h3⟩ := r.get i d h
    exact ⟨v, h1, h2.elim (fun q => .inl (q.sw (e.hide Ps))) fun q => .inr ⟨q.1, q.2.sw e same⟩, fun z => (h3 z).sw e same⟩
  inj := r.inj
  dom := fun q hq => by rw [same q hq]; exact r.dom q hq
  len := r.len
theorem keys_get {H : Hp} : ∀ {ks : List (Key × V)} {kvs : List (D × D)} {ds : List D} {i : Nat} {k : Key} {v : V}, RpKV K H ks kvs → keysD kvs = some ds → ks[i]? = some (k, v) → ∃ d, ds[i]? = some d ∧ ∀ H', Rp K H' (kV k) d
  | _, _, _, _, _, _, .nil, _, e => by simp at e
  | _, _, ds, i, k, v, .cons (x := x) (ds := kvs) z1 z2 h r, hk, e => by
    have hk : (keysD kvs).map (PyData.str x :: ·) = some ds := hk
    cases q : keysD kvs with
    | none => rw [q] at hk; cases hk
    | some ds' =>
      rw [q] at hk; cases hk
      cases i with
      | zero =>
        simp at e
        obtain ⟨rfl, rfl⟩ := e
        exact ⟨_, rfl, fun H' => .str z1 z2⟩
      | succ i => exact keys_get (i := i) r q (by simpa using e)
theorem keys_len {H : Hp} : ∀ {ks : List (Key × V)} {kvs : List (D × D)} {ds : List D}, RpKV K H ks kvs → keysD kvs = some ds → ds.length = ks.length
  | _, _, _, .nil, hk => by cases hk; rfl
  | _, _, ds, .cons (x := x) (ds := kvs) z1 z2 h r, hk => by
    have hk : (keysD kvs).map (PyData.str x :: ·) = some ds := hk
    cases q : keysD kvs with
    | none => rw [q] at hk; cases hk
    | some ds' =>
      rw [q] at hk; cases hk
      rw [List.length_cons, List.length_cons, keys_len r q]
theorem iter_keys {a : Addr} {o : Obj} {ks : List (Key × V)} {kvs : List (D × D)} {ds : List D} (h : hide H Ps a = some (.frz o (.dK ks))) (r : RpKV K (hide H Ps) ks kvs) (hk : keysD kvs = some ds) (z : kvs.length ≤ sizeLine) : IterOk K (Itk a o ks) H Ps ds := by
  have hl := keys_len r hk
  refine ⟨by rw [hl, r.length]; exact z, _, _, by rw [hl]; exact walk_keys, fun Ps' H' s => hide_le _ _ _ _ (s _ _ h), fun i Ps' Hi x H' hi s dom y => ?_⟩
  obtain ⟨rfl, k, v, hx, rfl⟩ := y
  obtain ⟨d, h1, h2⟩ := keys_get r hk hx
  exact ⟨Same.refl _, d, h1, h2 _⟩
def tKeys (K : PySem.W.Frag) (i j : Nat) (tt : TT) (te : TE) (vs : List Nat) : TE := fun σ H Q => tLockE (tLc (iKeys (tVar i)) (tgR K (.nm j)) tt te vs) σ H Q ∨ tLc (iKeys (tVar i)) (tgR K (.nm j)) tt te vs σ H Q
/-- a comprehension over a dict's keys, the dict locked meanwhile -/
theorem evKeys {i j : Nat} {tt : TT} {te : TE} {kvs : List (D × D)} {ks r : List D} {f : D → Res (Option D)} {vs : List Nat} (hvs : vs = [j])
    (re : EnvR K M H Ps σ env) (hm : M.contains i = false) (he : env[i]? = some (some (.dict kvs))) (hk : keysD kvs = some ks) (ht : TgOk K M (.nm j) (tgR K (.nm j))) (hr : eachD f ks = .ok r)
    (hf : ∀ d o, f d = .ok o → ∀ σ' H' Ps', EnvR K M H' Ps' σ' (env.set j (some d)) → ∃ b, EvB tt σ' H' b ∧ (b = true → ∃ y, o = some y ∧ EvD K te σ' H' Ps' false y) ∧ (b = false → o = none)) :
    EvD K (tKeys K i j tt te vs) σ H Ps false (.list r) := by
  intro H0 s0 Q q
  have re0 := re.same s0
  obtain ⟨v, h1, h2, _⟩ := re0.get i _ he
  rw [hm] at h2
  have hkk : isKeyed kvs = true := by unfold isKeyed; rw [hk]; rfl
  have core : ∀ (a : Addr) (o : Obj) (kk : List (Key × V)) (Hx : Hp), v = .ref a → EnvR K M Hx Ps σ env → hide Hx Ps a = some (.frz o (.dK kk)) → RpKV K (hide Hx Ps) kk kvs → kvs.length ≤ sizeLine → EvD K (tLc (iKeys (tVar i)) (tgR K (.nm j)) tt te vs) σ Hx Ps false (.list r) := by
    intro a o kk Hx ev rx ha rk hz
    subst hvs
    refine evComp (t := .nm j) (f := f) rfl rx (ds := ks) ?_ ht hr fun d o' ho => ⟨env.set j (some d), by simp only [Tg.put], fun σ' H' Ps' r' => hf d o' ho σ' H' Ps' r'⟩
    intro H2 s2 R q2
    subst ev
    refine ⟨_, h1, a, o, rfl, .inl ⟨kk, s2 _ _ (hide_le _ _ _ _ ha), q2 _ _ (Same.refl _) ?_⟩⟩
    exact iter_keys (hide_mono s2 Ps _ _ ha) (rk.mono (hide_mono s2 Ps)) hk hz
  cases h2.clean with
  | scr _ _ _ => cases hkk
  | dct hd rk hz =>
    rename_i a kk _
    rcases hd with hd | ⟨o, hd⟩
    · obtain ⟨na, hd'⟩ := hide_some hd
      refine .inl ⟨a, _, hd', trivial, fun od => ?_⟩
      have same : ∀ p ∈ Ps, upd H0 a (.frz od (.dK kk)) p = H0 p := fun p hp => upd_ne fun z => na (z ▸ hp)
      have sw := Sw.lock (od := od) hd'
      refine core a od kk _ rfl (re0.sw sw same) (by rw [hide_out na, upd_same]) (rk.sw (sw.hide Ps)) hz _ (Same.refl _) _ fun u H1 s1 ru => ?_
      have e1 : H1 a = some (.frz od (.dK kk)) := s1 _ _ upd_same
      refine ⟨e1, q u _ (fun b ob hb => ?_) (.of (ru.clean.sw ((Sw.unlock e1).hide Ps)))⟩
      by_cases e : b = a
      · subst e
        rw [hd'] at hb
        cases hb
        exact upd_same
      · rw [upd_ne e]
        exact s1 _ _ (by rw [upd_ne e]; exact hb)
    · exact .inr (core a o kk H0 rfl re0 hd rk hz H0 (Same.refl _) Q q)
end
section
variable {k : Nat} {defs : Nat → Option FDef} {K : PySem.W.Frag} {S : Sx}
theorem okE_bad {e : Expr} : OkE k defs K S .bad e := ⟨fun _ _ _ => False, fun X g => ⟨fun _ _ _ _ _ _ h => False.elim h⟩, fun σ H env Ps d r h => by simp only [evalE] at h; cases h⟩
theorem okB_bad {e : Expr} : OkB k defs K S .bad e := ⟨fun _ _ _ => False, fun X g => ⟨fun _ _ _ _ _ _ h => False.elim h⟩, fun σ H env Ps d r h => by simp only [evalE, bind_bad] at h; cases h⟩
theorem okE_glob {x : Str} {d : D} {p : Pos} (hg : glB S x = true) (hm : S.gl.any (fun p => decide (p.1 = x) && sameD p.2 d) = true) (hd : (x == ("__debug__" : Str)) = false) (nd : isDct d = false) : OkE k defs K S (.glob x d) (.Name x p) := by
  obtain ⟨q, hq, hh⟩ := List.any_eq_true.mp hm
  simp only [Bool.and_eq_true, decide_eq_true_eq] at hh
  have e1 := hh.1
  have e2 := sameD_eq _ _ hh.2
  subst e1
  subst e2
  refine ⟨fun σ H Q => (∀ H', Rp K H' (gK K q.1) q.2) → Q (gK K q.1) H, fun X g => ⟨fun pins s σ H Q I h => ?_⟩, fun σ H env Ps d' r h H0 s0 Q qq hr => ?_⟩
  · obtain ⟨u, hu, ru⟩ := g.gls q hq
    exact (pe_glob (g.gl hg) hu ru hd).run pins s σ H Q I (h fun H' => g.glr q hq nd H')
  · simp only [evalE] at h
    cases h
    exact qq _ H0 (Same.refl _) (.of (hr _))
/-! a dict of the module -/
def rKin (K : PySem.W.Frag) (x : Str) : R2 := fun u w H Q => ∃ z d r, u = .str z ∧ w = .ref d ∧ gK K x = .ref d ∧ PySem.W.nsIn K d z = some r ∧ Q (.bl r.isSome) H
def rKix (K : PySem.W.Frag) (x : Str) : R2 := fun u w H Q => ∃ z d e v, u = .ref d ∧ w = .str z ∧ gK K x = .ref d ∧ PySem.W.nsIn K d z = some (some e) ∧ RelV v e ∧ Q v H
def tKget (K : PySem.W.Frag) (x : Str) (ty tx : TE) : TE := fun σ H Q => ty σ H fun y H2 => tx σ H2 fun z H3 => ∃ k d r v, y = .str k ∧ gK K x = .ref d ∧ PySem.W.nsIn K d k = some r ∧ (∀ u, r = some u → RelV v u) ∧ (r = none → v = z) ∧ Q v H3
section
variable {X : Cx} {x : Str} {d : Addr} {es : Array DictEntry} {n : Nat}
theorem op_kin (hd : gK X.K x = .ref d) (D : KDict X.K X.w d es n) : OpR X (compareOp .In) (rKin X.K x) := by
  intro pins s σ H a b v u Q I ra rb h
  obtain ⟨z, d', r, e1, e2, e3, e4, q⟩ := h
  rw [hd] at e3
  cases e3
  exact op_in_kd D pins s σ H a b v u Q I ra rb ⟨z, r, e1, e2, e4, q⟩
theorem ix_kix (hd : gK X.K x = .ref d) (D : KDict X.K X.w d es n) : IxR X (rKix X.K x) := by
  intro value slice pins s σ H a b v u Q I ra rb h hs
  obtain ⟨z, d', e, w, e1, e2, e3, e4, e5, q⟩ := h
  rw [hd] at e3
  cases e3
  exact ix_kdict value slice pins s σ H a b v u Q I ra rb ⟨d, z, w, e1, e2, ⟨es, n, e, D.at_, D.lit, e4, e5⟩, q⟩ hs
theorem pe_kget {o e f : Expr} {ty tx : TE} {apos cpos : Pos} (hd : gK X.K x = .ref d) (D : KDict X.K X.w d es n) (ho : PE X o (tC (.ref d))) (he : PE X e ty) (hf : PE X f tx) (m : M2 X o "get" apos e f cpos) :
    PE X (.Call (.Attribute o "get" apos) [e, f] [] cpos) (tKget X.K x ty tx) := by
  refine ⟨fun pins s σ H Q I h => ?_⟩
  refine wpAny_Call_method m.base m.few m.line PySem.F.plainAttrs_dict PySem.F.slot_dict_get PySem.F.type_dict_get (thn (ho.run pins s σ H (fun v H1 => v = .ref d ∧ tKget X.K x ty tx σ H1 Q) I ⟨rfl, h⟩) fun u s1 ⟨v1, H1, I1, rv, ev, q1⟩ => ?_)
  subst ev
  cases rv
  have hm1 := PySem.W.mapOf_K (prog := X.prog) (w := X.w) I1.kIn D.at_ D.lit
  refine ⟨hm1.typeIs, hm1.noDict, ?_⟩
  rw [m.trees]
  refine Calls.callWith_builtin rfl (Calls.evalArgs_plain (Calls.spliced_cons (thn (he.run pins s1 σ H1 _ I1 q1) fun kv s2 ⟨v2, H2, I2, r2, q2⟩ => Calls.spliced_cons (thn (hf.run pins s2 σ H2 _ I2 q2) fun xv s3 ⟨v3, H3, I3, r3, q3⟩ => Calls.spliced_nil ?_))))
  obtain ⟨k, d', r, w, e1, e2, e3, e4, e5, q⟩ := q3
  subst e1
  rw [hd] at e2
  cases e2
  obtain ⟨t, rfl⟩ := r2
  have hm3 := PySem.W.mapOf_K (prog := X.prog) (w := X.w) I3.kIn D.at_ D.lit
  refine call_meetsIn PySem.F.slot_dict_get hm3.typeIs PySem.F.entry_dict_get (PySem.F.args_dict_get_3 _ _ _) (meets_dict_get_default (PySem.strKind X.prog X.w) d (PySem.strKind_is X.prog X.w k t) D.low xv) ⟨_, hm3, w, H3, I3.tok _, ?_, q⟩
  rw [PySem.W.find_K D.at_ e3]
  cases r with
  | none => rw [e5 rfl]; exact r3
  | some u0 => exact e4 u0 rfl
end
theorem gdB_ok {S : Sx} {x : Str} {kvs : List (D × D)} (h : gdB S x kvs = true) : glB S x = true ∧ (∃ q ∈ S.gl, q.1 = x ∧ q.2 = .dict kvs) ∧ (x == ("__debug__" : Str)) = false := by
  unfold gdB at h
  simp only [Bool.and_eq_true, Bool.not_eq_true'] at h
  obtain ⟨⟨h1, h2⟩, h3⟩ := h
  obtain ⟨q, hq, hh⟩ := List.any_eq_true.mp h2
  simp only [Bool.and_eq_true, decide_eq_true_eq] at hh
  exact ⟨h1, ⟨q, hq, hh.1, sameD_eq _ _ hh.2⟩, h3⟩
section
variable {S : Sx} {k : Nat} {defs : Nat → Option FDef} {K : PySem.W.Frag}
theorem Gd.dct {X : Cx} (g : Gd S k defs K X) {x : Str} {kvs : List (D × D)} (h : gdB S x kvs = true) : KDp K x kvs ∧ ∃ d es n, gK K x = .ref d ∧ KDict K X.w d es n ∧ ∀ p, PE X (.Name x p) (tC (.ref d)) := by
  obtain ⟨h1, ⟨q, hq, e1, e2⟩, h3⟩ := gdB_ok h
  subst e1
  obtain ⟨a1, d, es, n, a2, a3⟩ := g.gld q hq kvs e2
  obtain ⟨u, hu, ru⟩ := g.gls q hq
  refine ⟨a1, d, es, n, a2, a3, fun p => ?_⟩
  rw [a2] at ru
  exact pe_glob (g.gl h1) hu ru h3
/-- given that the dict stands as told -/
def tKn (K : PySem.W.Frag) (x : Str) (kvs : List (D × D)) (t : TE) : TE := fun σ H Q => KDp K x kvs → t σ H Q
theorem pe_kn {X : Cx} {e : Expr} {x : Str} {kvs : List (D × D)} {t : TE} (h : PE X e t) (d : KDp K x kvs) : PE X e (tKn K x kvs t) := ⟨fun pins s σ H Q I q => h.run pins s σ H Q I (q d)⟩
theorem evKin {x : Str} {kvs : List (D × D)} {ta : TE} {σ : St} {H : Hp} {Ps : List Addr} {b : Bool} {z : Str} (ha : EvD K ta σ H Ps b (.str z)) : EvD K (tKn K x kvs (tOp (rKin K x) ta (tC (gK K x)))) σ H Ps false (.bool (lookD z kvs).isSome) := fun H0 s0 Q q hd => by
  obtain ⟨d, e1, e2⟩ := hd
  refine ha H0 s0 _ fun v H1 s1 rv => ?_
  obtain ⟨rfl, _, _⟩ := rv.str
  cases hl : lookD z kvs with
  | none => exact ⟨z, d, none, rfl, e1, e1, (e2 z).2 hl, q _ H1 s1 (.of (by rw [hl]; exact .bl _))⟩
  | some y =>
    obtain ⟨u, h1, h2, h3⟩ := (e2 z).1 y hl
    exact ⟨z, d, some u, rfl, e1, e1, h1, q _ H1 s1 (.of (by rw [hl]; exact .bl _))⟩
theorem gdE_in {x : Str} {e y : Expr} {z : Option Expr} (h : gdE .in_ x e = some (y, z)) : ∃ p q, e = .Compare y [.In] [.Name x p] q ∧ z = none := by
  unfold gdE at h
  split at h
  · split at h
    · rename_i hc
      cases h
      obtain ⟨_, rfl⟩ := hc
      exact ⟨_, _, rfl, rfl⟩
    · cases h
  · split at h
    · rename_i hc
      cases hc.1
    · cases h
  · split at h
    · rename_i hc
      cases hc.1
    · cases h
  · cases h
theorem gdE_idx {x : Str} {e y : Expr} {z : Option Expr} (h : gdE .idx x e = some (y, z)) : ∃ p q, e = .Subscript (.Name x p) y q ∧ z = none ∧ noSlice y = true := by
  unfold gdE at h
  split at h
  · split at h
    · rename_i hc
      cases hc.1
    · cases h
  · split at h
    · rename_i hc
      cases hc.1
    · cases h
  · split at h
    · rename_i hc
      cases h
      obtain ⟨_, rfl, h1⟩ := hc
      exact ⟨_, _, rfl, rfl, h1⟩
    · cases h
  · cases h
theorem gdE_get {x : Str} {e y : Expr} {z : Option Expr} (h : gdE .get x e = some (y, z)) : ∃ c p0 p q, e = .Call (.Attribute (.Name x p0) "get" p) [y, c] [] q ∧ z = some c ∧ (p.endLine == q.line) = true ∧ noStar y = true ∧ noStar c = true := by
  unfold gdE at h
  split at h
  · split at h
    · rename_i hc
      cases hc.1
    · cases h
  · split at h
    · rename_i hc
      cases h
      obtain ⟨_, rfl, rfl, h1, h2, h3⟩ := hc
      exact ⟨_, _, _, _, rfl, rfl, h1, h2, h3⟩
    · cases h
  · split at h
    · rename_i hc
      cases hc.1
    · cases h
  · cases h
theorem gd_split {op : GOp} {x : Str} {kvs : List (D × D)} {a c : IE} {env : En} {d : D} (e : evalE (callF defs k) (.gd op x kvs a c) env = .ok d) : ∃ z m, evalE (callF defs k) a env = .ok (.str z) ∧ evalE (callF defs k) c env = .ok m ∧ gdD op kvs m (.str z) = .ok d := by
  simp only [evalE] at e
  obtain ⟨u, e1, e⟩ := bind_split e
  obtain ⟨m, e2, e⟩ := bind_split e
  cases u with
  | str z => exact ⟨z, m, e1, e2, e⟩
  | _ => cases e
theorem okE_gdIn {x : Str} {kvs : List (D × D)} {a c : IE} {e y : Expr} {z : Option Expr} (hg : gdB S x kvs = true) (h : gdE .in_ x e = some (y, z)) (ha : OkE k defs K S a y) : OkE k defs K S (.gd .in_ x kvs a c) e ∧ OkB k defs K S (.gd .in_ x kvs a c) e := by
  obtain ⟨p, q, rfl, rfl⟩ := gdE_in h
  obtain ⟨ta, a1, a2⟩ := ha
  have ev : ∀ σ H env Ps d, EnvR K S.M H Ps σ env → evalE (callF defs k) (.gd .in_ x kvs a c) env = .ok d → ∃ bb, d = .bool bb ∧ EvD K (tKn K x kvs (tOp (rKin K x) ta (tC (gK K x)))) σ H Ps false d := fun σ H env Ps d r e => by
    obtain ⟨w, m, e1, e2, e3⟩ := gd_split e
    cases e3
    exact ⟨_, rfl, evKin (a2 σ H env Ps _ r e1)⟩
  refine ⟨⟨_, fun X g => ?_, fun σ H env Ps d r e => (ev σ H env Ps d r e).elim fun _ h => h.2⟩, ⟨tTest (tKn K x kvs (tOp (rKin K x) ta (tC (gK K x)))), fun X g => ?_, fun σ H env Ps bb r e => ?_⟩⟩
  · obtain ⟨k1, d, es, n, k2, k3, k4⟩ := g.dct hg
    have := g.hK
    subst this
    refine pe_kn (pe_cmpR (op_kin k2 k3) (a1 X g) ?_ rfl) k1
    rw [k2]; exact k4 _
  · obtain ⟨k1, d, es, n, k2, k3, k4⟩ := g.dct hg
    have := g.hK
    subst this
    have := pt_cmpR (pos := q) (op_kin k2 k3) (a1 X g) (k2 ▸ k4 p) rfl
    exact ⟨fun pins s σ H Q I h => this.run pins s σ H Q I (h k1)⟩
  · obtain ⟨d, e1, e2⟩ := bind_split e
    obtain ⟨b', rfl, h1⟩ := ev σ H env Ps d r e1
    cases e2
    exact evTest h1
theorem okE_gdIdx {x : Str} {kvs : List (D × D)} {a c : IE} {e y : Expr} {z : Option Expr} (hg : gdB S x kvs = true) (h : gdE .idx x e = some (y, z)) (ha : OkE k defs K S a y) : OkE k defs K S (.gd .idx x kvs a c) e := by
  obtain ⟨p, q, rfl, rfl, hs⟩ := gdE_idx h
  obtain ⟨ta, a1, a2⟩ := ha
  refine ⟨tKn K x kvs (tOp (rKix K x) (tC (gK K x)) ta), fun X g => ?_, fun σ H env Ps d r e H0 s0 Q qq hd => ?_⟩
  · obtain ⟨k1, d, es, n, k2, k3, k4⟩ := g.dct hg
    have := g.hK
    subst this
    refine pe_kn (pe_ix (ix_kix k2 k3) ?_ (a1 X g) (sub_plain hs)) k1
    rw [k2]; exact k4 _
  · obtain ⟨w, m, e1, e2, e3⟩ := gd_split e
    obtain ⟨ad, k1, k2⟩ := hd
    refine a2 σ H env Ps _ r e1 H0 s0 _ fun v H1 s1 rv => ?_
    obtain ⟨rfl, _, _⟩ := rv.str
    have e3 : (match lookD w kvs with | some d => Res.ok d | none => .bad) = .ok d := e3
    cases hl : lookD w kvs with
    | none => rw [hl] at e3; cases e3
    | some y =>
      rw [hl] at e3
      cases e3
      obtain ⟨u, h1, h2, h3⟩ := (k2 w).1 _ hl
      exact ⟨w, ad, u, gV u, k1, rfl, k1, h1, h2, qq _ H1 s1 (.of (h3 _))⟩
theorem okE_gdGet {x : Str} {kvs : List (D × D)} {a c : IE} {e y z : Expr} (hg : gdB S x kvs = true) (h : gdE .get x e = some (y, some z)) (ha : OkE k defs K S a y) (hc : OkE k defs K S c z) (lc : lv S.M c = false) : OkE k defs K S (.gd .get x kvs a c) e := by
  obtain ⟨c', p0, p, q, rfl, hz, h1, h2, h3⟩ := gdE_get h
  cases hz
  obtain ⟨ta, a1, a2⟩ := ha
  obtain ⟨tc, c1, c2⟩ := hc
  refine ⟨tKn K x kvs (tKget K x ta tc), fun X g => ?_, fun σ H env Ps d r e H0 s0 Q qq hd => ?_⟩
  · obtain ⟨k1, d, es, n, k2, k3, k4⟩ := g.dct hg
    have := g.hK
    subst this
    exact pe_kn (pe_kget k2 k3 (k4 p0) (a1 X g) (c1 X g) ⟨rfl, by rw [star1 h2, star1 h3]; rfl, h1, by rw [star1 h2, star1 h3]; rfl⟩) k1
  · obtain ⟨w, m, e1, e2, e3⟩ := gd_split e
    obtain ⟨ad, k1, k2⟩ := hd
    refine a2 σ H env Ps _ r e1 H0 s0 _ fun v H1 s1 rv => ?_
    obtain ⟨rfl, _, _⟩ := rv.str
    have h2 := c2 σ H env Ps m r e2
    rw [lc] at h2
    refine h2 H1 (s0.trans s1) _ fun v2 H2 s2 rv2 => ?_
    have e3 : Res.ok ((lookD w kvs).getD m) = .ok d := e3
    cases e3
    cases hl : lookD w kvs with
    | none => exact ⟨w, ad, none, v2, rfl, k1, (k2 w).2 hl, fun _ h => (by cases h), fun _ => rfl, qq _ H2 (s1.trans s2) (.of (by rw [hl]; exact rv2.clean))⟩
    | some y =>
      obtain ⟨u, g1, g2, g3⟩ := (k2 w).1 _ hl
      exact ⟨w, ad, some u, gV u, rfl, k1, g1, fun u' hu => by cases hu; exact g2, fun h => (by cases h), qq _ H2 (s1.trans s2) (.of (by rw [hl]; exact g3 _))⟩
end
/-! slices -/
def OkO (k : Nat) (defs : Nat → Option FDef) (K : PySem.W.Frag) (S : Sx) (ie : IE) (e : Option Expr) : Prop := ∃ t : TO, (∀ X, Gd S k defs K X → PO X e t) ∧ ∀ σ H env Ps d l, EnvR K S.M H Ps σ env → evalE (callF defs k) ie env = .ok d → bound d = some l →
  ∀ H0, Same H H0 → ∀ Q : Option Int → Hp → Prop, (∀ H1, Same H0 H1 → Q l H1) → t σ H0 Q
theorem okO_none {ie : IE} (h : isNon ie = true) : OkO k defs K S ie none := ⟨tNoPart, fun X g => po_none, fun σ H env Ps d l r e hb H0 s0 Q q => by
  cases ie <;> first | (cases h; done) | skip
  simp only [evalE] at e
  cases e
  cases hb
  exact q H0 (Same.refl _)⟩
def tPartA (t : TE) : TO := fun σ H Q => t σ H fun x H1 => (∃ i, x = .int i ∧ Q (some i) H1) ∨ (x = .non ∧ Q none H1)
theorem po_any {X : Cx} {e : Expr} {t : TE} (h : PE X e t) : PO X (some e) (tPartA t) := by
  refine ⟨fun pins s σ H Q I hw => ?_⟩
  rw [evalPart_some]
  refine thn (h.run pins s σ H _ I hw) fun u s1 ⟨x, H1, I1, r1, q1⟩ => ?_
  rcases q1 with ⟨i, rfl, q⟩ | ⟨rfl, q⟩
  · obtain ⟨t, rfl⟩ := r1
    exact ⟨some i, H1, I1, .int i t, q⟩
  · cases r1
    exact ⟨none, H1, I1, .none, q⟩
theorem okO_some {ie : IE} {e : Expr} (h : OkE k defs K S ie e) : OkO k defs K S ie (some e) := by
  obtain ⟨t, t1, t2⟩ := h
  refine ⟨tPartA t, fun X g => po_any (t1 X g), fun σ H env Ps d l r e hb H0 s0 Q q => ?_⟩
  refine t2 σ H env Ps d r e H0 s0 _ fun v H1 s1 rv => ?_
  cases d with
  | none => cases hb; cases rv.non; exact .inr ⟨rfl, q H1 s1⟩
  | int i => cases hb; cases rv.int; exact .inl ⟨i, rfl, q H1 s1⟩
  | _ => cases hb
theorem sl_split {a b c z : D} (h : slD a b c = .ok z) : ∃ l m, bound b = some l ∧ bound c = some m ∧ cutD l m a = .ok z := by
  unfold slD at h
  cases q : bound b with
  | none => rw [q] at h; cases h
  | some l =>
    cases q2 : bound c with
    | none => rw [q, q2] at h; cases h
    | some m => rw [q, q2] at h; exact ⟨l, m, rfl, rfl, h⟩
theorem okE_sl {a b c : IE} {e x : Expr} {y z : Option Expr} (ha : OkE k defs K S a x) (hb : OkO k defs K S b y) (hc : OkO k defs K S c z) (h : slE e = some (x, y, z)) : OkE k defs K S (.o3 .sl a b c) e := by
  obtain ⟨ta, a1, a2⟩ := ha
  obtain ⟨tb, b1, b2⟩ := hb
  obtain ⟨tc, c1, c2⟩ := hc
  obtain ⟨p, pos, rfl⟩ := slE_ok h
  refine ⟨tSl (rSlAll K) ta tb tc, fun X g => g.hK ▸ pe_slice sl_all (a1 X g) (b1 X g) (c1 X g), fun σ H env Ps d r e H0 s0 Q q => ?_⟩
  simp only [evalE] at e
  obtain ⟨u, e1, e⟩ := bind_split e
  obtain ⟨w, e2, e⟩ := bind_split e
  obtain ⟨m, e3, e⟩ := bind_split e
  obtain ⟨l1, l2, f1, f2, f3⟩ := sl_split e
  refine a2 σ H env Ps u r e1 H0 s0 _ fun v H1 s1 rv => b2 σ H env Ps w l1 r e2 f1 H1 (s0.trans s1) _ fun H2 s2 => c2 σ H env Ps m l2 r e3 f2 H2 ((s0.trans s1).trans s2) _ fun H3 s3 => ?_
  have d1 := dom_same r.dom (s0.trans s1)
  exact r_sl (dom_same d1 (s2.trans s3)) (rv.same d1 (s2.trans s3)) f3 fun u' H4 s4 ru => q u' H4 (((s1.trans s2).trans s3).trans s4) (.of ru)
/-! d.get(k, x) -/
theorem okE_get {a b c : IE} {e x y z : Expr} (ha : OkE k defs K S a x) (hb : OkE k defs K S b y) (hc : OkE k defs K S c z) (lc : lv S.M c = false) (h : get2E e = some (x, y, z)) : OkE k defs K S (.o3 .get a b c) e := by
  obtain ⟨ta, a1, a2⟩ := ha
  obtain ⟨tb, b1, b2⟩ := hb
  obtain ⟨tc, c1, c2⟩ := hc
  obtain ⟨p, q, rfl, h1, h2, h3, h4⟩ := get2E_ok h
  refine ⟨tDGet2 ta tb tc, fun X g => pe_dget2 (by have := g.hu; omega) (a1 X g) (b1 X g) (c1 X g) ⟨base_plain h2, by rw [star1 h3, star1 h4]; rfl, h1, by rw [star1 h3, star1 h4]; rfl⟩, fun σ H env Ps d r e H0 s0 Q q => ?_⟩
  simp only [evalE] at e
  obtain ⟨u, e1, e⟩ := bind_split e
  obtain ⟨w, e2, e⟩ := bind_split e
  obtain ⟨m, e3, e⟩ := bind_split e
  cases u with
  | dict kvs =>
    cases w with
    | str kk =>
      have e : (if isKeyed kvs = true then Res.ok ((lookD kk kvs).getD m) else .bad) = .ok d := e
      by_cases hk : isKeyed kvs = true
      · rw [if_pos hk] at e
        cases e
        refine a2 σ H env Ps _ r e1 H0 s0 _ fun v H1 s1 rv => ?_
        obtain ⟨ad, ks, rfl, hr, rk, hz⟩ := rv.dct hk
        refine ⟨ad, rfl, .inl ⟨ks, hr⟩, b2 σ H env Ps _ r e2 H1 (s0.trans s1) _ fun v2 H2 s2 rv2 => c2 σ H env Ps _ r e3 H2 ((s0.trans s1).trans s2) _ fun v3 H3 s3 rv3 => ?_⟩
        obtain ⟨rfl, _, _⟩ := rv2.str
        have hr3 : Rd H3 ad (.dK ks) := hr.elim (fun q => .inl (s3 _ _ (s2 _ _ q))) fun ⟨o, q⟩ => .inr ⟨o, s3 _ _ (s2 _ _ q)⟩
        refine ⟨_, dget_of (Ps := Ps) hr3, q _ H3 ((s1.trans s2).trans s3) ?_⟩
        rw [lc] at rv3
        cases hl : lookD kk kvs with
        | none => rw [(rk.look kk).2 hl]; exact .of rv3.clean
        | some dd =>
          obtain ⟨vv, hv, rr⟩ := (rk.look kk).1 dd hl
          rw [hv]
          exact .of (rr.mono (hide_mono (s2.trans s3) Ps))
      · rw [if_neg hk] at e; cases e
    | _ => cases e
  | _ => cases e
/-! comprehensions over keys -/
theorem keys_split {i : Nat} {env : En} {u : D} {ds : List D} (e1 : slot env[i]? = .ok u) (e2 : keysOf u = .ok ds) : ∃ kvs, env[i]? = some (some (.dict kvs)) ∧ keysD kvs = some ds := by
  cases q : env[i]? with
  | none => rw [q] at e1; cases e1
  | some o =>
    cases o with
    | none => rw [q] at e1; cases e1
    | some x =>
      rw [q] at e1
      cases e1
      cases u with
      | dict kvs =>
        have e2 : (match keysD kvs with | some ks => Res.ok ks | none => .bad) = .ok ds := e2
        cases q2 : keysD kvs with
        | none => rw [q2] at e2; cases e2
        | some ks => rw [q2] at e2; cases e2; exact ⟨kvs, rfl, q2⟩
      | _ => cases e2
theorem okE_compK {i j : Nat} {elt : IE} {x tg ie : Expr} {scope : Scope} {p : Pos} (hi : chkE S (.var i) ie = true) (hx : OkE k defs K (blkS S scope) elt x) (hm : S.M.contains i = false) (hset : noSet ie = true) (hb : blkC S.N S.sc scope (ownOf S (.nm j)) = true) (ht : chkT (blkS S scope) (.nm j) tg = true) (hl : lv S.M elt = false) :
    OkE k defs K S (.compK j (.var i) elt) (.ListComp x [⟨tg, ie, [], 0⟩] scope p) := by
  obtain ⟨te, x1, x2⟩ := hx
  cases ie with
  | Name y py =>
    have hi : visB S i y = true := by simpa [chkE] using hi
    refine ⟨tKeys K i j tYes te ((ownOf S (.nm j)).map (·.2)), fun X g => ?_, fun σ H env Ps d r e => ?_⟩
    · obtain ⟨a, b, c, d⟩ := g.vis hi
      have pe : PE X (.ListComp x [⟨tg, .Name y py, [], 0⟩] scope p) (tLc (iKeys (tVar i)) (tgR K (.nm j)) tYes te ((ownOf S (.nm j)).map (·.2))) :=
        pe_lc g.calm (by rw [g.N]; exact g.nd) (pi_keys (pe_var a b c d)) (by rw [g.N, g.sc]; exact blkOk_by hb) (fun s H C cl fp => tg_pg (g.blk s H scope C cl fp) ht) (fun s H C cl fp => pts_nil) (fun s H C cl fp => x1 _ (g.blk s H scope C cl fp)) (fun v => fold_plain hset v)
      exact PE.alt (pe_lock pe) pe
    · simp only [evalE] at e
      obtain ⟨u, e0, e⟩ := bind_split e
      obtain ⟨ds, e1, e⟩ := bind_split e
      obtain ⟨rr, e2, e⟩ := bind_split e
      cases e
      obtain ⟨kvs, f1, f2⟩ := keys_split e0 e1
      refine evKeys own_snd r hm f1 f2 (tg_ok (S := blkS S scope) ht) (tame_split e2) fun d o ho σ' H' Ps' r' => ?_
      obtain ⟨y, h3, h4⟩ := bind_split ho
      cases h4
      refine ⟨true, fun H0 s0 Q q => q H0 (Same.refl _), fun _ => ⟨y, rfl, ?_⟩, fun z => nomatch z⟩
      have := x2 σ' H' _ Ps' y r' h3
      have hl' : lv (blkS S scope).M elt = false := hl
      rw [hl'] at this
      exact this
  | _ => simp [chkE] at hi
theorem okE_compKIf {i j : Nat} {c elt : IE} {x y tg ie : Expr} {scope : Scope} {p : Pos} (hi : chkE S (.var i) ie = true) (hc : OkB k defs K (blkS S scope) c y) (hx : OkE k defs K (blkS S scope) elt x) (hm : S.M.contains i = false) (hset : noSet ie = true) (hb : blkC S.N S.sc scope (ownOf S (.nm j)) = true) (ht : chkT (blkS S scope) (.nm j) tg = true) (hl : lv S.M elt = false) :
    OkE k defs K S (.compKIf j (.var i) c elt) (.ListComp x [⟨tg, ie, [y], 0⟩] scope p) := by
  obtain ⟨te, x1, x2⟩ := hx
  obtain ⟨tt, c1, c2⟩ := hc
  cases ie with
  | Name yn py =>
    have hi : visB S i yn = true := by simpa [chkE] using hi
    refine ⟨tKeys K i j tt te ((ownOf S (.nm j)).map (·.2)), fun X g => ?_, fun σ H env Ps d r e => ?_⟩
    · obtain ⟨a, b, c, d⟩ := g.vis hi
      have pe : PE X (.ListComp x [⟨tg, .Name yn py, [y], 0⟩] scope p) (tLc (iKeys (tVar i)) (tgR K (.nm j)) tt te ((ownOf S (.nm j)).map (·.2))) :=
        pe_lc g.calm (by rw [g.N]; exact g.nd) (pi_keys (pe_var a b c d)) (by rw [g.N, g.sc]; exact blkOk_by hb) (fun s H C cl fp => tg_pg (g.blk s H scope C cl fp) ht) (fun s H C cl fp => pts_one (c1 _ (g.blk s H scope C cl fp))) (fun s H C cl fp => x1 _ (g.blk s H scope C cl fp)) (fun v => fold_plain hset v)
      exact PE.alt (pe_lock pe) pe
    · simp only [evalE] at e
      obtain ⟨u, e0, e⟩ := bind_split e
      obtain ⟨ds, e1, e⟩ := bind_split e
      obtain ⟨rr, e2, e⟩ := bind_split e
      cases e
      obtain ⟨kvs, f1, f2⟩ := keys_split e0 e1
      refine evKeys own_snd r hm f1 f2 (tg_ok (S := blkS S scope) ht) (tame_split e2) fun d o ho σ' H' Ps' r' => ?_
      obtain ⟨u, h3, h4⟩ := bind_split ho
      obtain ⟨b, h5, h6⟩ := bind_split h4
      refine ⟨b, c2 σ' H' _ Ps' b r' (by rw [h3]; exact h5), fun hb => ?_, fun hb => ?_⟩
      · subst hb
        obtain ⟨y, h7, h8⟩ := bind_split (show (evalE (callF defs k) elt (env.set j (some d))).bind (fun x => Res.ok (some x)) = .ok o from h6)
        cases h8
        refine ⟨y, rfl, ?_⟩
        have := x2 σ' H' _ Ps' y r' h7
        have hl' : lv (blkS S scope).M elt = false := hl
        rw [hl'] at this
        exact this
      · subst hb
        cases h6
        rfl
  | _ => simp [chkE] at hi
/-! displays -/
def OkP (k : Nat) (defs : Nat → Option FDef) (K : PySem.W.Frag) (S : Sx) (ks : List Str) (as : IEs) (keys : List (Option Expr)) (es : List Expr) : Prop := ∃ trs : List (TE × TE), (∀ X pos, Gd S k defs K X → PPs X pos keys es trs) ∧ ∀ σ H env Ps ds, EnvR K S.M H Ps σ env → evalEs (callF defs k) as env = .ok ds →
  ∀ H0, Same H H0 → ∀ Q : List (V × V) → Hp → Prop, (∀ kvs H1, Same H0 H1 → RpKV K (hide H1 Ps) kvs ((ks.map PyData.str).zip ds) → ks.length = ds.length → Q (kvs.map fun kv => (kV kv.1, kv.2)) H1) → tPairs trs σ H0 Q
theorem okP_nil : OkP k defs K S [] .nil [] [] := ⟨[], fun X pos g => pps_nil, fun σ H env Ps ds r e H0 s0 Q q => by
  simp only [evalEs] at e; cases e
  exact q [] H0 (Same.refl _) .nil rfl⟩
theorem okP_cons {x : Str} {ks : List Str} {a : IE} {as : IEs} {keys : List (Option Expr)} {e : Expr} {es : List Expr} {kk : Nat} {pk : Pos} (hs : smallStr x = true) (ha : OkE k defs K S a e) (la : lv S.M a = false) (hr : OkP k defs K S ks as keys es) : OkP k defs K S (x :: ks) (.cons a as) (some (.Constant (.str x) kk pk) :: keys) (e :: es) := by
  obtain ⟨ta, a1, a2⟩ := ha
  obtain ⟨trs, r1, r2⟩ := hr
  refine ⟨(tC (.str x), ta) :: trs, fun X pos g => pps_cons pe_str (a1 X g) (r1 X pos g), fun σ H env Ps ds r e H0 s0 Q q => ?_⟩
  simp only [evalEs] at e
  obtain ⟨d, e1, e⟩ := bind_split e
  obtain ⟨ds', e2, e⟩ := bind_split e
  cases e
  have := a2 σ H env Ps d r e1
  rw [la] at this
  refine this H0 s0 _ fun v H1 s1 rv => r2 σ H env Ps ds' r e2 H1 (s0.trans s1) _ fun kvs H2 s2 rk hl => ?_
  simp only [smallStr, Bool.and_eq_true, decide_eq_true_eq] at hs
  refine q ((.inr x, v) :: kvs) H2 (s1.trans s2) ?_ (by simp [hl])
  exact .cons (Nat.le_of_lt (small1000 hs.1)) hs.2 (rv.clean.mono (hide_mono s2 Ps)) rk
theorem disp_ok {H : Hp} : ∀ {ks : List Str} {ds : List D} {kvs acc : List (Key × V)} {dacc out : List (D × D)}, RpKV K H kvs ((ks.map PyData.str).zip ds) → RpKV K H acc dacc → dispD ks ds dacc = some out → RpKV K H (mergeK acc kvs) out
  | [], [], _, _, _, _, .nil, ra, e => by cases e; exact ra
  | [], _ :: _, _, _, _, _, _, _, e => by cases e
  | _ :: _, [], _, _, _, _, _, _, e => by cases e
  | x :: ks, d :: ds, kvs, acc, dacc, out, rk, ra, e => by
    have rk : RpKV K H kvs ((PyData.str x, d) :: (ks.map PyData.str).zip ds) := rk
    cases rk with
    | cons z1 z2 h r =>
      rename_i v vs
      show RpKV K H (mergeK (putK acc (.inr x) v) vs) out
      exact disp_ok (ks := ks) (ds := ds) r (ra.put z1 z2 h) e
theorem disp_len : ∀ {ks : List Str} {ds : List D} {dacc out : List (D × D)}, dispD ks ds dacc = some out → out.length ≤ dacc.length + ks.length
  | [], [], _, _, e => by cases e; exact Nat.le_refl _
  | [], _ :: _, _, _, e => by cases e
  | _ :: _, [], _, _, e => by cases e
  | x :: ks, d :: ds, dacc, out, e => by
    have h1 := disp_len (ks := ks) (ds := ds) e
    have h2 : (putD x d dacc).length ≤ dacc.length + 1 := by
      unfold putD
      split
      · simp
      · simp
    rw [List.length_cons]
    omega
theorem okF_dsp {ks : List Str} {as : IEs} {keys : List (Option Expr)} {es : List Expr} {pos : Pos} (h : OkP k defs K S ks as keys es) (k1 : keys.all (·.isSome) = true) (k2 : keys.length = ks.length) (hl : ks.length ≤ 15) (he : keys.length = es.length) : ∃ t, (∀ X, Gd S k defs K X → PE X (.Dict keys es pos) t) ∧ ∀ σ H env Ps d, EnvR K S.M H Ps σ env → evalE (callF defs k) (.dsp ks as) env = .ok d → EvF K t σ H Ps d := by
  obtain ⟨trs, t1, t2⟩ := h
  cases keys with
  | nil =>
    cases es with
    | cons _ _ => simp at he
    | nil =>
      cases ks with
      | cons _ _ => simp at k2
      | nil =>
        refine ⟨tDNewK, fun X g => pe_dnewK, fun σ H env Ps d r e H0 s0 Q q p hp => ?_⟩
        simp only [evalE] at e
        obtain ⟨ds, e1, e⟩ := bind_split e
        cases ds with
        | nil =>
          cases e
          exact q _ _ (same_upd hp) ⟨p, [], rfl, hp, upd_same, .nil, Nat.zero_le _⟩
        | cons _ _ => cases e
  | cons k0 keys =>
    refine ⟨tDisp trs, fun X g => pe_disp (t1 X pos g) k1 he (by simp) (by rw [k2]; exact hl), fun σ H env Ps d r e H0 s0 Q q p hp => ?_⟩
    simp only [evalE] at e
    obtain ⟨ds, e1, e⟩ := bind_split e
    have r0 := r.same s0
    have r1 : EnvR K S.M (upd H0 p (.dK [])) (p :: Ps) σ env := r0.keep (Keep.new r0.dom hp)
    refine t2 σ _ env (p :: Ps) ds r1 e1 _ (Same.refl _) _ fun kvs H2 s2 rk hlen => ?_
    have hp2 : H2 p = some (.dK []) := s2 _ _ upd_same
    have e : (match dispD ks ds [] with | some kvs => Res.ok (PyData.dict kvs) | none => .bad) = .ok d := e
    cases qd : dispD ks ds [] with
    | none => rw [qd] at e; cases e
    | some out =>
      rw [qd] at e
      cases e
      have hkl : kvs.length = ks.length := by rw [rk.length, List.length_zip, List.length_map, ← hlen, Nat.min_self]
      refine ⟨hp2, kvs, rfl, by rw [hkl]; exact hl, q _ _ (fun a o ha => ?_) ⟨p, _, rfl, hp, upd_same, ?_, ?_⟩⟩
      · rw [upd_ne (ne_of_none ha hp)]
        exact s2 _ _ (by rw [upd_ne (ne_of_none ha hp)]; exact ha)
      · rw [hide_upd_in (by simp)]
        exact disp_ok rk .nil qd
      · have := disp_len qd
        rw [sizeLine_eq]
        simp at this
        omega
/-! new lists -/
def OkF (k : Nat) (defs : Nat → Option FDef) (K : PySem.W.Frag) (S : Sx) (ie : IE) (e : Expr) : Prop := ∃ t, (∀ X, Gd S k defs K X → PE X e t) ∧ ∀ σ H env Ps d, EnvR K S.M H Ps σ env → evalE (callF defs k) ie env = .ok d → freshD d = true → EvF K t σ H Ps d
theorem OkF.ok {ie : IE} {e : Expr} (h : ∃ t, (∀ X, Gd S k defs K X → PE X e t) ∧ ∀ σ H env Ps d, EnvR K S.M H Ps σ env → evalE (callF defs k) ie env = .ok d → EvF K t σ H Ps d) (hl : lv S.M ie = false) : OkE k defs K S ie e := by
  obtain ⟨t, t1, t2⟩ := h
  refine ⟨t, t1, fun σ H env Ps d r e => ?_⟩
  rw [hl]
  exact (t2 σ H env Ps d r e).ev r.dom
theorem new_lstF {K : PySem.W.Frag} {H : Hp} {Ps : List Addr} {p : Addr} {xs : List V} {ds : List D} (hp : H p = none) (r : RpAll K (hide H Ps) xs ds) (z : ds.length ≤ sizeLine) : Fr K H (upd H p (.lst xs)) Ps (.ref p) (.list ds) :=
  ⟨p, xs, rfl, hp, upd_same, r.mono (hide_new hp), z⟩
theorem Fr.back {K : PySem.W.Frag} {H H1 H' : Hp} {Ps : List Addr} {u : V} {d : D} (h : Fr K H1 H' Ps u d) (s : Same H H1) : Fr K H H' Ps u d := by
  cases d with
  | list ds => obtain ⟨p, xs, rfl, h1, h2, h3, h4⟩ := h; exact ⟨p, xs, rfl, s.free h1, h2, h3, h4⟩
  | dict kvs => obtain ⟨p, xs, rfl, h1, h2, h3, h4⟩ := h; exact ⟨p, xs, rfl, s.free h1, h2, h3, h4⟩
  | _ => exact False.elim h
theorem okF_lst {es : IEs} {xs : List Expr} {p : Pos} (h : OkA k defs K S es xs) (hc : chkEs S es xs = true) (hl : xs.length ≤ 1000) : OkF k defs K S (.lst es) (.List xs p) := by
  obtain ⟨t, t1, t2⟩ := h
  refine ⟨tLst t, fun X g => pe_lst (t1 X g), fun σ H env Ps d r e _ H0 s0 Q q => ?_⟩
  simp only [evalE] at e
  obtain ⟨ds, e1, e⟩ := bind_split e
  cases e
  refine t2 σ H env Ps ds r e1 H0 s0 _ fun vs H1 s1 rv => ?_
  have z : ds.length ≤ sizeLine := by rw [evalEs_len hc e1]; exact Nat.le_of_lt (small1000 hl)
  exact ⟨by rw [rv.length]; exact z, fun p hp => q _ _ (s1.trans (same_upd hp)) ((new_lstF hp rv z).back s1)⟩
def R2fr (K : PySem.W.Frag) (f : D → D → Res D) (r : R2) : Prop :=
  ∀ (v w : V) (H : Hp) (Ps : List Addr) (d e x : D) (b c : Bool) (Q : VK), RL K H Ps b v d → RL K H Ps c w e → f d e = .ok x → freshD x = true → (∀ u H', Same H H' → Fr K H H' Ps u x → Q u H') → r v w H Q
theorem fr_add : R2fr K addD (rAddAll K) := by
  intro v w H Ps d e x b c Q h1 h2 hx hf q
  cases d <;> cases e <;> first | (cases hx; done) | skip
  · cases hx; cases hf
  · cases hx; cases hf
  · rename_i s t
    simp only [addD] at hx
    split at hx <;> cases hx
    cases hf
  · rename_i s t
    obtain ⟨a, xs, rfl, a1, a2, a3⟩ := h1.list
    obtain ⟨a', ys, rfl, b1, b2, b3⟩ := h2.list
    simp only [addD] at hx
    by_cases z : fits (s.length + t.length) = true
    · rw [if_pos z] at hx; cases hx
      have z' : s.length + t.length ≤ sizeLine := of_decide_eq_true z
      refine .inr <| .inr (.inr (.inl ⟨a, a', xs, ys, rfl, rfl, a1, b1, by rw [a2.length, b2.length]; exact z', fun p hp => ?_⟩))
      exact q _ _ (same_upd hp) (new_lstF hp (a2.append b2) (by rw [List.length_append]; exact z'))
    · rw [if_neg z] at hx; cases hx
  · rename_i s t
    simp only [addD] at hx
    split at hx <;> cases hx
    cases hf
theorem fr_mul : R2fr K mulD rMulAll := by
  intro v w H Ps d e x b c Q h1 h2 hx hf q
  cases d <;> cases e <;> first | (cases hx; done) | skip
  · cases hx; cases hf
  · simp only [mulD] at hx
    split at hx <;> cases hx
    cases hf
  · simp only [mulD] at hx
    split at hx <;> cases hx
    cases hf
  · rename_i s k
    obtain ⟨a, xs, rfl, e1, r, z1⟩ := h1.list; cases h2.int
    have hx : (if repOk s.length k then Res.ok (PyData.list (List.replicate k.toNat s).flatten) else .bad) = .ok x := hx
    split at hx
    · rename_i z; cases hx; have z' := of_decide_eq_true z
      have hz : (List.replicate k.toNat s).flatten.length ≤ sizeLine := by
        rw [flat_len, sizeLine_eq]
        have : k.toNat * s.length ≤ 1000 * 1000 := Nat.mul_le_mul (by omega) z'.2.2
        omega
      refine .inr <| .inr (.inl ⟨a, k, xs, rfl, rfl, e1, by omega, by omega, ?_, fun p hp => q _ _ (same_upd hp) (new_lstF hp (r.rep _) hz)⟩)
      rw [flat_len] at hz
      rw [r.length, Nat.mul_comm]; exact hz
    · cases hx
theorem okF_o2 {op : Op2} {a b : IE} {e x y : Expr} {r : R2} {c : Operator} (ha : OkE k defs K S a x) (hb : OkE k defs K S b y) (h : binE op e = some (x, y)) (ho : binOf op = some c) (hop : ∀ X : Cx, X.K = K → OpR X (binaryOp c) r) (hr : R2fr K (op2 op) r) : OkF k defs K S (.o2 op a b) e := by
  obtain ⟨ta, a1, a2⟩ := ha
  obtain ⟨tb, b1, b2⟩ := hb
  obtain ⟨c', p, rfl, h1⟩ := binE_ok h
  rw [ho] at h1
  cases h1
  refine ⟨tOp r ta tb, fun X g => pe_op (hop X g.hK) (a1 X g) (b1 X g), fun σ H env Ps d re e hf H0 s0 Q q => ?_⟩
  simp only [evalE] at e
  obtain ⟨u, e1, e⟩ := bind_split e
  obtain ⟨w, e2, e⟩ := bind_split e
  refine a2 σ H env Ps u re e1 H0 s0 _ fun v H1 s1 rv => b2 σ H env Ps w re e2 H1 (s0.trans s1) _ fun v2 H2 s2 rv2 => ?_
  have d1 := dom_same re.dom (s0.trans s1)
  exact hr v v2 H2 Ps u w d _ _ Q (rv.same d1 s2) rv2 e hf fun u' H3 s3 f => q u' H3 ((s1.trans s2).trans s3) (f.back (s1.trans s2))
theorem okF_sl {a b c : IE} {e x : Expr} {y z : Option Expr} (ha : OkE k defs K S a x) (hb : OkO k defs K S b y) (hc : OkO k defs K S c z) (h : slE e = some (x, y, z)) : OkF k defs K S (.o3 .sl a b c) e := by
  obtain ⟨ta, a1, a2⟩ := ha
  obtain ⟨tb, b1, b2⟩ := hb
  obtain ⟨tc, c1, c2⟩ := hc
  obtain ⟨p, pos, rfl⟩ := slE_ok h
  refine ⟨tSl (rSlAll K) ta tb tc, fun X g => g.hK ▸ pe_slice sl_all (a1 X g) (b1 X g) (c1 X g), fun σ H env Ps d r e hf H0 s0 Q q => ?_⟩
  simp only [evalE] at e
  obtain ⟨u, e1, e⟩ := bind_split e
  obtain ⟨w, e2, e⟩ := bind_split e
  obtain ⟨m, e3, e⟩ := bind_split e
  obtain ⟨l1, l2, f1, f2, f3⟩ := sl_split e
  refine a2 σ H env Ps u r e1 H0 s0 _ fun v H1 s1 rv => b2 σ H env Ps w l1 r e2 f1 H1 (s0.trans s1) _ fun H2 s2 => c2 σ H env Ps m l2 r e3 f2 H2 ((s0.trans s1).trans s2) _ fun H3 s3 => ?_
  have d1 := dom_same r.dom (s0.trans s1)
  have rv3 := rv.same d1 (s2.trans s3)
  cases u with
  | list xs =>
    obtain ⟨ad, vs, rfl, ee, rr, zz⟩ := rv3.list
    cases f3
    exact .inl ⟨ad, vs, rfl, SqL.of ee, fun p hp => q _ _ (((s1.trans s2).trans s3).trans (same_upd hp)) ((new_lstF hp (rr.cut l1 l2) (Nat.le_trans (cutL_len _ _ _) zz)).back ((s1.trans s2).trans s3))⟩
  | tuple xs => cases f3; cases hf
  | str xs => cases f3; cases hf
  | _ => cases f3
theorem okF_list {a : IE} {e x : Expr} (ha : OkE k defs K S a x) (h : bcall S "list" e = some x) : OkF k defs K S (.o1 .list a) e := by
  obtain ⟨ta, a1, a2⟩ := ha
  obtain ⟨p, q, rfl, h1, h2⟩ := bcall_ok h
  refine ⟨tUn (fun v H Q => ∃ p ys, [v] = [V.ref p] ∧ (SqL K H p ys ∨ SqT K H p ys) ∧ ∀ l, H l = none → Q (.ref l) (upd H l (.lst ys))) ta, fun X g => g.hK ▸ pe_callTy call_list_of (g.gl h1) (g.free _ (by decide +kernel)) boot_list' (pa_cons (a1 X g) pa_nil (star1 h2)) (he := star1 h2), fun σ H env Ps d r e hf H0 s0 Q q => ?_⟩
  simp only [evalE] at e
  obtain ⟨u, e1, e⟩ := bind_split e
  refine a2 σ H env Ps u r e1 H0 s0 _ fun v H1 s1 rv => ?_
  have e : listD u = .ok d := e
  cases u with
  | list xs =>
    obtain ⟨ad, vs, rfl, ee, rr, zz⟩ := rv.list
    cases e
    exact ⟨ad, vs, rfl, .inl (SqL.of ee), fun l hl => q _ _ (s1.trans (same_upd hl)) ((new_lstF hl rr zz).back s1)⟩
  | tuple xs =>
    obtain ⟨ad, vs, rfl, ee, rr, zz⟩ := rv.tuple
    cases e
    exact ⟨ad, vs, rfl, .inr ee, fun l hl => q _ _ (s1.trans (same_upd hl)) ((new_lstF hl rr zz).back s1)⟩
  | _ => cases e
end
end Tq

/-! Tq, part K: the theorem of the expressions. -/
namespace Tq
open PySem L2 Res
section
variable {k : Nat} {defs : Nat → Option FDef} {K : PySem.W.Frag}
theorem fnm_ok {S : Sx} {f : Nat} {n : Str} {l : Nat} (h : (match S.fnm f with | some (m, ar) => decide (m = n) && decide (l = ar) && !(n == ("__debug__" : Str)) | none => false) = true) : ∃ ar, S.fnm f = some (n, ar) ∧ l = ar ∧ (n == ("__debug__" : Str)) = false := by
  cases q : S.fnm f with
  | none => rw [q] at h; cases h
  | some p =>
    obtain ⟨m, ar⟩ := p
    rw [q] at h
    simp only [Bool.and_eq_true, decide_eq_true_eq, Bool.not_eq_true'] at h
    exact ⟨ar, by rw [h.1.1], h.1.2, h.2⟩
theorem okO_of {ie : IE} {S : Sx} {y : Option Expr} (h : (match y with | none => isNon ie | some y' => chkE S ie y') = true) (f : ∀ y', chkE S ie y' = true → OkE k defs K S ie y') : OkO k defs K S ie y := by
  cases y with
  | none => exact okO_none h
  | some e => exact okO_some (f e h)
mutual
theorem soundE : ∀ (ie : IE) (S : Sx) (e : Expr), chkE S ie e = true → OkE k defs K S ie e
  | .bad, S, e, h => okE_bad
  | .var i, S, e, h => okE_var h
  | .non, S, e, h => by
    unfold chkE at h
    split at h <;> first | (cases h; done) | skip
    exact okE_c (v := .non) (d := .none) rfl (fun X => pe_non) (fun env => by simp only [evalE]) fun H => .non
  | .bl b, S, e, h => by
    unfold chkE at h
    split at h <;> first | (cases h; done) | skip
    have h := eq_of_beq h
    subst h
    exact okE_c (v := .bl b) (d := .bool b) rfl (fun X => pe_bl) (fun env => by simp only [evalE]) fun H => .bl b
  | .int i, S, e, h => by
    unfold chkE at h
    split at h <;> first | (cases h; done) | skip
    have h := of_decide_eq_true h
    subst h
    exact okE_c (v := .int i) (d := .int i) rfl (fun X => pe_int) (fun env => by simp only [evalE]) fun H => .int i
  | .str x, S, e, h => by
    unfold chkE at h
    split at h <;> first | (cases h; done) | skip
    simp only [smallStr, Bool.and_eq_true, decide_eq_true_eq] at h
    obtain ⟨rfl, h1, h2⟩ := h
    exact okE_c (v := .str x) (d := .str x) rfl (fun X => pe_str) (fun env => by simp only [evalE]) fun H => .str (Nat.le_of_lt (small1000 h1)) h2
  | .glob x d, S, e, h => by
    unfold chkE at h
    split at h <;> first | (cases h; done) | skip
    simp only [Bool.and_eq_true, Bool.not_eq_true', decide_eq_true_eq] at h
    obtain ⟨⟨⟨⟨rfl, h1⟩, h2⟩, h3⟩, h4⟩ := h
    exact okE_glob h1 h2 h3 h4
  | .dsp ks es, S, e, h => by
    unfold chkE at h
    split at h <;> first | (cases h; done) | skip
    simp only [Bool.and_eq_true, decide_eq_true_eq] at h
    obtain ⟨p1, p2, p3, p4⟩ := soundP es S ks _ _ h.1
    exact OkF.ok (okF_dsp p1 p2 p3 h.2 p4) rfl
  | .tup es, S, e, h => by
    unfold chkE at h
    split at h <;> first | (cases h; done) | skip
    simp only [Bool.and_eq_true, decide_eq_true_eq] at h
    exact okE_tup (soundEs es S _ h.1) h.1 h.2
  | .lst es, S, e, h => by
    unfold chkE at h
    split at h <;> first | (cases h; done) | skip
    simp only [Bool.and_eq_true, decide_eq_true_eq] at h
    exact okE_lst (soundEs es S _ h.1) h.1 h.2
  | .o1 op a, S, e, h => by
    unfold chkE at h
    split at h <;> first | (cases h; done) | skip
    rename_i x q
    exact okE_o1 (soundE a S x h) q
  | .o2 op a b, S, e, h => by
    unfold chkE at h
    split at h <;> first | (cases h; done) | skip
    rename_i x y q
    simp only [Bool.and_eq_true] at h
    exact okE_o2 (soundE a S x h.1) (soundE b S y h.2) q
  | .o3 .sl a b c, S, e, h => by
    unfold chkE at h
    split at h <;> first | (cases h; done) | skip
    rename_i x y z q
    simp only [Bool.and_eq_true] at h
    exact okE_sl (soundE a S x h.1.1) (okO_of h.1.2 fun y' hy => soundE b S y' hy) (okO_of h.2 fun z' hz => soundE c S z' hz) q
  | .o3 .get a b c, S, e, h => by
    unfold chkE at h
    split at h <;> first | (cases h; done) | skip
    rename_i x y z q
    simp only [Bool.and_eq_true, Bool.not_eq_true'] at h
    exact okE_get (soundE a S x h.1.1.1) (soundE b S y h.1.1.2) (soundE c S z h.1.2) h.2 q
  | .o3 .replace _ _ _, S, e, h => by simp [chkE] at h
  | .isi a t, S, e, h => by
    unfold chkE at h
    split at h <;> first | (cases h; done) | skip
    rename_i x q
    exact okE_isi (soundE a S x h) q
  | .and_ a b, S, e, h => by
    unfold chkE at h
    split at h <;> first | (cases h; done) | skip
    rename_i x y q
    simp only [Bool.and_eq_true, Bool.not_eq_true'] at h
    exact okE_and (soundE a S x h.1.1.1) (soundE b S y h.1.1.2) q h.1.2 h.2
  | .or_ a b, S, e, h => by
    unfold chkE at h
    split at h <;> first | (cases h; done) | skip
    rename_i x y q
    simp only [Bool.and_eq_true, Bool.not_eq_true'] at h
    exact okE_or (soundE a S x h.1.1.1) (soundE b S y h.1.1.2) q h.1.2 h.2
  | .ifE c a b, S, e, h => by
    unfold chkE at h
    split at h <;> first | (cases h; done) | skip
    simp only [Bool.and_eq_true, Bool.not_eq_true'] at h
    exact okE_if (soundB c S _ h.1.1.1.1) (soundE a S _ h.1.1.1.2) (soundE b S _ h.1.1.2) h.1.2 h.2
  | .chain o p a b c, S, e, h => by
    unfold chkE at h
    split at h <;> first | (cases h; done) | skip
    simp only [Bool.and_eq_true, decide_eq_true_eq] at h
    exact (okE_chain (soundE a S _ h.1.1.2) (soundE b S _ h.1.2) (soundE c S _ h.2) h.1.1.1.1.1.1 h.1.1.1.1.1.2 h.1.1.1.2).1
  | .call f es, S, e, h => by
    unfold chkE at h
    split at h <;> first | (cases h; done) | skip
    simp only [Bool.and_eq_true] at h
    obtain ⟨ar, h1, h2, h3⟩ := fnm_ok h.1.1
    exact okE_call (soundEs es S _ h.2) h1 h2 h3 h.1.2 h.2
  | .comp t it elt, S, e, h => by
    unfold chkE at h
    split at h <;> first | (cases h; done) | skip
    simp only [Bool.and_eq_true, Bool.not_eq_true'] at h
    obtain ⟨⟨⟨⟨⟨⟨⟨h1, h2⟩, h3⟩, h4⟩, h5⟩, h6⟩, _⟩, _⟩ := h
    exact okE_comp (soundIT it S _ _ h1) (soundE elt _ _ h5) h2 h3 h4 h6
  | .compIf t it c elt, S, e, h => by
    unfold chkE at h
    split at h <;> first | (cases h; done) | skip
    simp only [Bool.and_eq_true, Bool.not_eq_true'] at h
    obtain ⟨⟨⟨⟨⟨⟨⟨⟨h1, h2⟩, h3⟩, h4⟩, hc⟩, h5⟩, h6⟩, _⟩, _⟩ := h
    exact okE_compIf (soundIT it S _ _ h1) (soundB c _ _ hc) (soundE elt _ _ h5) h2 h3 h4 h6
  | .compK j a elt, S, e, h => by
    unfold chkE at h
    split at h <;> first | (cases h; done) | skip
    simp only [Bool.and_eq_true, Bool.not_eq_true'] at h
    obtain ⟨⟨⟨⟨⟨⟨⟨⟨⟨h0, h1⟩, h2⟩, h3⟩, h4⟩, h5⟩, h6⟩, h7⟩, _⟩, _⟩ := h
    cases a <;> first | (cases h0; done) | skip
    exact okE_compK h1 (soundE elt _ _ h6) h2 h3 h4 h5 h7
  | .compKIf j a c elt, S, e, h => by
    unfold chkE at h
    split at h <;> first | (cases h; done) | skip
    simp only [Bool.and_eq_true, Bool.not_eq_true'] at h
    obtain ⟨⟨⟨⟨⟨⟨⟨⟨⟨⟨h0, h1⟩, h2⟩, h3⟩, h4⟩, h5⟩, hc⟩, h6⟩, h7⟩, _⟩, _⟩ := h
    cases a <;> first | (cases h0; done) | skip
    exact okE_compKIf h1 (soundB c _ _ hc) (soundE elt _ _ h6) h2 h3 h4 h5 h7
  | .gd op x kvs a c, S, e, h => by
    unfold chkE at h
    simp only [Bool.and_eq_true] at h
    obtain ⟨hg, h⟩ := h
    split at h <;> first | (cases h; done) | skip
    rename_i y z q
    simp only [Bool.and_eq_true] at h
    cases op with
    | in_ => exact (okE_gdIn hg q (soundE a S y h.1)).1
    | idx => exact okE_gdIdx hg q (soundE a S y h.1)
    | get =>
      obtain ⟨c', p0, p1, p2, _, rfl, _⟩ := gdE_get q
      have h2 : (chkE S c c' && !(lv S.M c)) = true := h.2
      simp only [Bool.and_eq_true, Bool.not_eq_true'] at h2
      exact okE_gdGet hg q (soundE a S y h.1) (soundE c S c' h2.1) h2.2
theorem soundP : ∀ (as : IEs) (S : Sx) (ks : List Str) (keys : List (Option Expr)) (es : List Expr), chkDs S ks as keys es = true → OkP k defs K S ks as keys es ∧ keys.all (·.isSome) = true ∧ keys.length = ks.length ∧ keys.length = es.length
  | .nil, S, [], [], [], _ => ⟨okP_nil, rfl, rfl, rfl⟩
  | .nil, S, [], [], _ :: _, h => by simp [chkDs] at h
  | .nil, S, [], _ :: _, _, h => by simp [chkDs] at h
  | .nil, S, _ :: _, _, _, h => by simp [chkDs] at h
  | .cons _ _, S, [], _, _, h => by simp [chkDs] at h
  | .cons _ _, S, _ :: _, [], _, h => by simp [chkDs] at h
  | .cons _ _, S, _ :: _, _ :: _, [], h => by simp [chkDs] at h
  | .cons a as, S, x :: ks, y :: ys, e :: es, h => by
    simp only [chkDs, Bool.and_eq_true, Bool.not_eq_true'] at h
    obtain ⟨⟨⟨h1, h2⟩, h3⟩, h4⟩ := h
    obtain ⟨p1, p2, p3, p4⟩ := soundP as S ks ys es h4
    unfold keyE at h1
    split at h1
    · simp only [Bool.and_eq_true, decide_eq_true_eq] at h1
      obtain ⟨rfl, hs⟩ := h1
      exact ⟨okP_cons hs (soundE a S e h2) h3 p1, by simp [p2], by simp [p3], by simp [p4]⟩
    · cases h1
theorem soundB : ∀ (ie : IE) (S : Sx) (e : Expr), chkB S ie e = true → OkB k defs K S ie e
  | .bad, S, e, h => okB_bad
  | .o3 .sl a b c, S, e, h => by
    unfold chkB at h
    simp only [Bool.and_eq_true] at h
    obtain ⟨hp, h⟩ := h
    split at h <;> first | (cases h; done) | skip
    rename_i x y z q
    simp only [Bool.and_eq_true] at h
    exact okB_of (okE_sl (soundE a S x h.1.1) (okO_of h.1.2 fun y' hy => soundE b S y' hy) (okO_of h.2 fun z' hz => soundE c S z' hz) q) hp
  | .and_ a b, S, e, h => by
    unfold chkB at h
    split at h <;> first | (cases h; done) | skip
    rename_i x y q
    simp only [Bool.and_eq_true] at h
    exact okB_and (soundB a S x h.1) (soundB b S y h.2) q
  | .or_ a b, S, e, h => by
    unfold chkB at h
    split at h <;> first | (cases h; done) | skip
    rename_i x y q
    simp only [Bool.and_eq_true] at h
    exact okB_or (soundB a S x h.1) (soundB b S y h.2) q
  | .o2 op a b, S, e, h => by
    unfold chkB at h
    split at h
    · split at h <;> first | (cases h; done) | skip
      rename_i x y q
      simp only [Bool.and_eq_true] at h
      exact okB_cmp (soundE a S _ h.1) (soundE b S _ h.2) q
    · simp only [Bool.and_eq_true] at h
      obtain ⟨hp, h⟩ := h
      split at h <;> first | (cases h; done) | skip
      rename_i x y q
      simp only [Bool.and_eq_true] at h
      exact okB_of (okE_o2 (soundE a S x h.1) (soundE b S y h.2) q) hp
  | .chain o p a b c, S, e, h => by
    unfold chkB at h
    split at h <;> first | (cases h; done) | skip
    simp only [Bool.and_eq_true, decide_eq_true_eq] at h
    exact (okE_chain (soundE a S _ h.1.1.2) (soundE b S _ h.1.2) (soundE c S _ h.2) h.1.1.1.1.1.1 h.1.1.1.1.1.2 h.1.1.1.2).2
  | .var i, S, e, h => by
    unfold chkB at h
    split at h <;> first | (cases h; done) | skip
    exact okB_of (okE_var (by unfold chkE; exact h)) rfl
  | .isi a t, S, e, h => by
    unfold chkB at h
    split at h <;> first | (cases h; done) | skip
    rename_i x q
    exact okB_of (okE_isi (soundE a S x h) q) (isiAll_plain q)
  | .call f es, S, e, h => by
    unfold chkB at h
    split at h <;> first | (cases h; done) | skip
    simp only [Bool.and_eq_true] at h
    obtain ⟨ar, h1, h2, h3⟩ := fnm_ok h.1.1
    exact okB_of (okE_call (soundEs es S _ h.2) h1 h2 h3 h.1.2 h.2) rfl
  | .o1 op a, S, e, h => by
    by_cases hn : op = .not
    · subst hn
      unfold chkB at h
      split at h <;> first | (cases h; done) | skip
      exact okB_not (soundB a S _ h)
    · have h' : (plainTest e && (match sh1 S op e with | some x => chkE S a x | none => false)) = true := by
        cases op <;> first | exact absurd rfl hn | (unfold chkB at h; exact h)
      simp only [Bool.and_eq_true] at h'
      obtain ⟨hp, h'⟩ := h'
      split at h' <;> first | (cases h'; done) | skip
      rename_i x q
      exact okB_of (okE_o1 (soundE a S x h') q) hp
  | .gd .in_ x kvs a c, S, e, h => by
    unfold chkB at h
    simp only [Bool.and_eq_true] at h
    obtain ⟨hg, h⟩ := h
    split at h <;> first | (cases h; done) | skip
    rename_i y z q
    simp only [Bool.and_eq_true] at h
    exact (okE_gdIn hg q (soundE a S y h.1)).2
  | .gd .get _ _ _ _, S, e, h | .gd .idx _ _ _ _, S, e, h | .non, S, e, h | .bl _, S, e, h | .int _, S, e, h | .str _, S, e, h | .glob _ _, S, e, h | .tup _, S, e, h | .lst _, S, e, h | .dsp _ _, S, e, h | .o3 .get _ _ _, S, e, h | .o3 .replace _ _ _, S, e, h | .ifE _ _ _, S, e, h | .comp _ _ _, S, e, h | .compIf _ _ _ _, S, e, h | .compK _ _ _, S, e, h | .compKIf _ _ _ _, S, e, h => by unfold chkB at h; cases h
theorem soundEs : ∀ (as : IEs) (S : Sx) (es : List Expr), chkEs S as es = true → OkA k defs K S as es
  | .nil, S, [], h => okA_nil
  | .nil, S, _ :: _, h => by simp [chkEs] at h
  | .cons _ _, S, [], h => by simp [chkEs] at h
  | .cons a as, S, e :: es, h => by
    simp only [chkEs, Bool.and_eq_true, Bool.not_eq_true'] at h
    exact okA_cons (soundE a S e h.1.1.2) (soundEs as S es h.2) h.1.1.1 h.1.2
theorem soundIT : ∀ (it : IT) (S : Sx) (tg e : Expr), chkIT S it tg e = true → OkI k defs K S it tg e
  | .seq a, S, tg, e, h => by
    simp only [chkIT, Bool.and_eq_true, Bool.not_eq_true'] at h
    exact okI_seq (soundE a S e h.1) h.2
  | .rng1 a, S, tg, e, h => by
    unfold chkIT at h
    split at h <;> first | (cases h; done) | skip
    rename_i x q
    exact okI_rng1 (soundE a S x h) q
  | .rng2 a b, S, tg, e, h => by
    unfold chkIT at h
    split at h <;> first | (cases h; done) | skip
    rename_i x y q
    simp only [Bool.and_eq_true] at h
    exact okI_rng2 (soundE a S x h.1) (soundE b S y h.2) q
  | .enum a, S, tg, e, h => by
    unfold chkIT at h
    split at h <;> first | (cases h; done) | skip
    rename_i x q
    simp only [Bool.and_eq_true, Bool.not_eq_true'] at h
    exact okI_enum (soundE a S x h.1.2) q h.1.1 h.2
  | .zip a b, S, tg, e, h => by
    unfold chkIT at h
    split at h <;> first | (cases h; done) | skip
    rename_i x y q
    simp only [Bool.and_eq_true, Bool.not_eq_true'] at h
    exact okI_zip (soundE a S x h.1.1.1.2) (soundE b S y h.1.1.2) q h.1.1.1.1 h.1.2 h.2
  | .rev _, S, tg, e, h => by simp [chkIT] at h
end
end
end Tq

/-! Tq, part 1: rows as keys of dicts: values that are none, a whole, a truth or a text. -/
namespace Tq
open PySem L2 Res
def fkIs : FK → Value → Bool
  | none, .none => true
  | none, _ => false
  | some (.inl i), .int j _ => i == j
  | some (.inl i), .bool b => i == (if b then 1 else 0)
  | some (.inl _), _ => false
  | some (.inr x), v => Value.isStr v x
def fkHash (w : World) : FK → Int
  | none => reduceHash 4238894112
  | some k => keyH w k
section
variable {P : Program} {w : World} {A : Around} {E : Value → Shared → Prop} {s : Shared}
theorem hash_none {Q : Int → Shared → Prop} (q : Q (reduceHash 4238894112) { s with toks := s.toks + 1 }) : wpAny (model P w) A (pyHash .none) Q E s := by
  show wpAny (model P w) A (pyHashByItsType .none) Q E s
  refine PySem.W.pyHash_slot (T := "NoneType") (show typeOf .none = pure (Value.type "NoneType") from rfl) PySem.F.slot_NoneType_hash PySem.F.entry_NoneType_hash (by kernel_rfl) (by decide +kernel) (.inl rfl) ?_
  unfold Builtin.«NoneType.__hash__»
  refine wpAny_bind (wpAny_pure (a := (Value.none, [])) ?_)
  refine wpAny_bind (wpAny_mkInt ?_)
  refine wpAny_pure ?_
  exact ⟨_, _, rfl, q⟩
theorem hash_bool {b : Bool} {Q : Int → Shared → Prop} (q : Q (keyH w (.inl (if b then 1 else 0))) { s with toks := s.toks + 1 }) : wpAny (model P w) A (pyHash (.bool b)) Q E s := by
  show wpAny (model P w) A (pyHashByItsType (.bool b)) Q E s
  refine PySem.W.pyHash_slot (T := "bool") (show typeOf (.bool b) = pure (Value.type "bool") from rfl) PySem.F.slot_bool_hash PySem.F.entry_int_hash (by cases b <;> kernel_rfl) (by decide +kernel) (.inl rfl) ?_
  unfold Builtin.«int.__hash__»
  unfold Builtin.Int.intSlot0
  refine wpAny_bind (wpAny_bind (wpAny_pure (a := (Value.bool b, [])) ?_))
  cases b
  · refine wpAny_bind (wpAny_pure (a := (0 : Int)) (wpAny_pure ?_))
    refine wpAny_bind (wpAny_mkInt (wpAny_pure ?_))
    refine ⟨_, _, rfl, ?_⟩
    exact q
  · refine wpAny_bind (wpAny_pure (a := (1 : Int)) (wpAny_pure ?_))
    refine wpAny_bind (wpAny_mkInt (wpAny_pure ?_))
    refine ⟨_, _, rfl, ?_⟩
    exact q
theorem eqBool_of {u v : Value} {k : Bool} {Q : Bool → Shared → Prop} (hs : (u == v) = true → k = true) (hf : ∀ a b t c, ¬ (u = .float a t ∧ v = .float b c)) (h : ∀ Q' : Value → Shared → Prop, Q' (.bool k) s → wpAny (model P w) A (compareOp CmpOp.Eq u v) Q' E s) (q : Q k s) : wpAny (model P w) A (eqBool u v) Q E s := by
  unfold eqBool
  refine wpAny_holding ?_
  split
  · rename_i e
    rw [hs e] at q
    refine wpAny_bind (wpAny_rule ?_)
    exact wpAny_pure q
  · split
    · rename_i a t b c e
      exact absurd ⟨congrArg Prod.fst e, congrArg Prod.snd e⟩ (hf _ _ _ _)
    · refine wpAny_bind (h _ ?_)
      exact wpAny_pure q
end
/-- what a key is -/
theorem fk_shape {k : FK} {v : Value} (h : fkIs k v = true) : (v = .none ∧ k = none) ∨ (∃ i t, v = .int i t ∧ k = some (.inl i)) ∨ (∃ b, v = .bool b ∧ k = some (.inl (if b then 1 else 0))) ∨ ∃ x t, v = .str x t ∧ k = some (.inr x) := by
  match k, v, h with
  | none, .none, _ => exact .inl ⟨rfl, rfl⟩
  | some (.inl i), .int j t, h =>
    have : i = j := by simpa [fkIs] using h
    exact .inr (.inl ⟨j, t, rfl, by rw [this]⟩)
  | some (.inl i), .bool b, h =>
    have : i = if b then 1 else 0 := by simpa [fkIs] using h
    exact .inr (.inr (.inl ⟨b, rfl, by rw [this]⟩))
  | some (.inr x), .str y t, h =>
    have h : (y == x) = true := h
    have : y = x := by simpa using h
    exact .inr (.inr (.inr ⟨y, t, rfl, by rw [this]⟩))
def flatKind (P : Program) (w : World) : KeyKind P w FK where
  is := fkIs
  hash := fkHash w
  inj := fun v a b ha hb => by
    rcases fk_shape ha with ⟨rfl, rfl⟩ | ⟨i, t, rfl, rfl⟩ | ⟨c, rfl, rfl⟩ | ⟨x, t, rfl, rfl⟩ <;> rcases fk_shape hb with ⟨e, rfl⟩ | ⟨i', t', e, rfl⟩ | ⟨c', e, rfl⟩ | ⟨x', t', e, rfl⟩ <;> cases e <;> rfl
  byValue := fun k v h => by
    rcases fk_shape h with ⟨rfl, rfl⟩ | ⟨i, t, rfl, rfl⟩ | ⟨c, rfl, rfl⟩ | ⟨x, t, rfl, rfl⟩ <;> rfl
  pyHash := fun {A E s k v Q} h q => by
    rcases fk_shape h with ⟨rfl, rfl⟩ | ⟨i, t, rfl, rfl⟩ | ⟨c, rfl, rfl⟩ | ⟨x, t, rfl, rfl⟩
    · exact hash_none q
    · exact (mixKind P w).pyHash (k := .inl i) (show L2.keyIs (.inl i) (Value.int i t) = true by simp [L2.keyIs, Value.isInt]) q
    · exact hash_bool q
    · exact (mixKind P w).pyHash (k := .inr x) (show L2.keyIs (.inr x) (Value.str x t) = true by simp [L2.keyIs, Value.isStrOf, Value.isStr]) q
  eqBool := fun {A E s a b u v Q} ha hb q => by
    rcases fk_shape ha with ⟨rfl, rfl⟩ | ⟨i, t, rfl, rfl⟩ | ⟨c, rfl, rfl⟩ | ⟨x, t, rfl, rfl⟩ <;> rcases fk_shape hb with ⟨rfl, rfl⟩ | ⟨i', t', rfl, rfl⟩ | ⟨c', rfl, rfl⟩ | ⟨x', t', rfl, rfl⟩
    · exact eqBool_of (k := true) (fun _ => rfl) (fun a b t c z => nomatch z.1) (fun Q' q' => PySem.EqNone.eq_none_none q') (by simpa using q)
    · exact eqBool_of (k := false) (fun z => by cases z) (fun a b t c z => nomatch z.1) (fun Q' q' => PySem.EqNone.eq_none_int q') (by simpa using q)
    · exact eqBool_of (k := false) (fun z => by cases z) (fun a b t c z => nomatch z.1) (fun Q' q' => PySem.EqNone.eq_none_bool q') (by simpa using q)
    · exact eqBool_of (k := false) (fun z => by cases z) (fun a b t c z => nomatch z.1) (fun Q' q' => PySem.EqNone.eq_none_str q') (by simpa using q)
    · exact eqBool_of (k := false) (fun z => by cases z) (fun a b t c z => nomatch z.2) (fun Q' q' => PySem.EqNone.eq_int_none q') (by simpa using q)
    · exact (mixKind P w).eqBool (a := .inl i) (b := .inl i') (show L2.keyIs (.inl i) (Value.int i t) = true by simp [L2.keyIs, Value.isInt]) (show L2.keyIs (.inl i') (Value.int i' t') = true by simp [L2.keyIs, Value.isInt]) (by simpa using q)
    · exact eqBool_of (k := (i == if c' = true then 1 else 0)) (fun z => by cases z) (fun a b t c z => nomatch z.1) (fun Q' q' => PySem.EqBoolInt.eq_int_bool q') (by
        have e : decide ((some (.inl i) : FK) = some (.inl (if c' = true then 1 else 0))) = (i == if c' = true then 1 else 0) := by
          rw [Bool.eq_iff_iff]; simp
        rw [← e]; exact q)
    · exact eqBool_of (k := false) (fun z => by cases z) (fun a b t c z => nomatch z.1) (fun Q' q' => PySem.EqMixed.eq_int_str q') (by simpa using q)
    · exact eqBool_of (k := false) (fun z => by cases z) (fun a b t c z => nomatch z.1) (fun Q' q' => PySem.EqNone.eq_bool_none q') (by simpa using q)
    · exact eqBool_of (k := ((if c = true then 1 else 0) == i')) (fun z => by cases z) (fun a b t c z => nomatch z.1) (fun Q' q' => PySem.EqBoolInt.eq_bool_int q') (by
        have e : decide ((some (.inl (if c = true then 1 else 0)) : FK) = some (.inl i')) = ((if c = true then 1 else 0) == i') := by
          rw [Bool.eq_iff_iff]; simp
        rw [← e]; exact q)
    · refine eqBool_of (k := (c == c')) (fun z => ?_) (fun a b t c z => nomatch z.1) (fun Q' q' => PyProof.Rows.eq_bool q') ?_
      · revert z; cases c <;> cases c' <;> decide
      · revert q; cases c <;> cases c' <;> exact id
    · exact eqBool_of (k := false) (fun z => by cases z) (fun a b t c z => nomatch z.1) (fun Q' q' => PySem.EqMixed.eq_bool_str q') (by simpa using q)
    · exact eqBool_of (k := false) (fun z => by cases z) (fun a b t c z => nomatch z.1) (fun Q' q' => PySem.EqNone.eq_str_none q') (by simpa using q)
    · exact eqBool_of (k := false) (fun z => by cases z) (fun a b t c z => nomatch z.1) (fun Q' q' => PySem.EqMixed.eq_str_int q') (by simpa using q)
    · exact eqBool_of (k := false) (fun z => by cases z) (fun a b t c z => nomatch z.1) (fun Q' q' => PySem.EqMixed.eq_str_bool q') (by simpa using q)
    · exact (mixKind P w).eqBool (a := .inr x) (b := .inr x') (show L2.keyIs (.inr x) (Value.str x t) = true by simp [L2.keyIs, Value.isStrOf, Value.isStr]) (show L2.keyIs (.inr x') (Value.str x' t') = true by simp [L2.keyIs, Value.isStrOf, Value.isStr]) (by simpa using q)
  «strs» := fun k x t v h => by
    rcases fk_shape h with ⟨e, rfl⟩ | ⟨i, t', e, rfl⟩ | ⟨c, e, rfl⟩ | ⟨y, t', e, rfl⟩
    · cases e
    · cases e
    · cases e
    · cases e; rfl
/-! ### dicts of rows -/
def fkV : V → FK
  | .int i => some (.inl i)
  | .bl b => some (.inl (if b then 1 else 0))
  | .str x => some (.inr x)
  | _ => none
def flatV : V → Bool
  | .non | .int _ | .bl _ | .str _ => true
  | _ => false
theorem fk_rel {v : V} {u : Value} (h : flatV v = true) (r : RelV v u) : fkIs (fkV v) u = true := by
  cases v with
  | non => cases r; rfl
  | int i => obtain ⟨t, rfl⟩ := r; simp [fkIs, fkV]
  | bl b => cases r; simp [fkIs, fkV]
  | str x => obtain ⟨t, rfl⟩ := r; simp [fkIs, fkV, Value.isStr]
  | _ => cases h
abbrev RE := List FK × Addr × Value
abbrev rowKind (P : Program) (w : World) := tupleKind (flatKind P w)
def rdO (P : Program) (w : World) (d : Addr) (xs : List RE) : HO := .ext fun h => (d == sysModules) = false ∧ ∃ o es ep, h.get? d = some o ∧ o.ExactDict ∧ o.data = .dict es ep ∧ es.toList = xs.map (entryOfKey (rowKind P w))
def RowK (K : PySem.W.Frag) (H : Hp) (a : Addr) (ks : List FK) : Prop := ∃ vs : List V, SqT K H a vs ∧ vs.all flatV = true ∧ vs.map fkV = ks
theorem RowK.mono {K : PySem.W.Frag} {H H' : Hp} {a : Addr} {ks : List FK} (h : RowK K H a ks) (e : Same H H') : RowK K H' a ks := by
  obtain ⟨vs, h1, h2, h3⟩ := h
  exact ⟨vs, seqT e h1, h2, h3⟩
theorem items_are {P : Program} {w : World} : ∀ {vs : List V} {us : List Value}, Vals vs us → vs.all flatV = true → ItemsAre (flatKind P w) (vs.map fkV) us
  | _, _, .nil, _ => .nil
  | _, _, .cons r t, h => by
    rw [List.all_cons, Bool.and_eq_true] at h
    exact .cons (fk_rel h.1 r) (items_are t h.2)
theorem row_is {X : Cx} {pins : List (Addr × Obj)} {σ : St} {H : Hp} {s : Shared} (I : Inv X pins σ H s) {a : Addr} {ks : List FK} (h : RowK X.K H a ks) : (rowKind X.prog X.w).is s.heap ks a := by
  obtain ⟨vs, h1, h2, h3⟩ := h
  obtain ⟨its, r, pl, hz⟩ := I.tuple h1
  obtain ⟨o, e1, e2, n, e4⟩ := pl
  refine ⟨o, its.toArray, n, e1, e2, e4, ?_⟩
  rw [← h3]
  exact items_are r h2
structure RdAt (P : Program) (w : World) (K : PySem.W.Frag) (H : Hp) (d : Addr) (xs : List RE) : Prop where
  at_ : H d = some (rdO P w d xs) ∨ (xs = [] ∧ H d = some (.dK []))
  keys : ∀ x ∈ xs, RowK K H x.2.1 x.1
  nd : (xs.map (·.1)).Nodup
theorem rd_dict {X : Cx} {pins : List (Addr × Obj)} {σ : St} {H : Hp} {s : Shared} (I : Inv X pins σ H s) {d : Addr} {xs : List RE} (R : RdAt X.prog X.w X.K H d xs) : Heap.DictOfH (rowKind X.prog X.w) s.heap d xs := by
  have hk : ∀ x ∈ xs, (rowKind X.prog X.w).is s.heap x.1 x.2.1 := fun x hx => row_is I (R.keys x hx)
  rcases R.at_ with h | ⟨rfl, h⟩
  · have := I.hok d _ h
    unfold rdO at this
    unfold ObjOk at this
    obtain ⟨⟨_, o, es, ep, h1, h2, h3, h4⟩, _, _⟩ := this
    exact ⟨o, es, ep, h1, h2, h3, h4, hk, R.nd⟩
  · have := I.hok d _ h
    unfold ObjOk at this
    obtain ⟨_, _, vs, kv, o, es, ep, h1, h2, h3, h4⟩ := this
    cases kv
    refine ⟨o, es, ep, h1, h2, h3, ?_, hk, R.nd⟩
    obtain ⟨_, hp, _⟩ := h4
    cases he : es.toList with
    | nil => rfl
    | cons a l => rw [he] at hp; cases hp
theorem rd_low {X : Cx} {pins : List (Addr × Obj)} {σ : St} {H : Hp} {s : Shared} (I : Inv X pins σ H s) {d : Addr} {xs : List RE} (R : RdAt X.prog X.w X.K H d xs) : (d == sysModules) = false := by
  rcases R.at_ with h | ⟨rfl, h⟩
  · have := I.hok d _ h
    unfold rdO at this
    unfold ObjOk at this
    exact this.1.1
  · have := I.hok d _ h
    unfold ObjOk at this
    exact this.2.1
theorem rd_type {X : Cx} {pins : List (Addr × Obj)} {σ : St} {H : Hp} {s : Shared} (I : Inv X pins σ H s) {d : Addr} {xs : List RE} (R : RdAt X.prog X.w X.K H d xs) : s.TypeIs (.ref d) "dict" ∧ ∃ o, s.heap.get? d = some o ∧ o.dict = none := by
  obtain ⟨o, es, ep, h1, h2, h3, _⟩ := rd_dict I R
  exact ⟨⟨o, h1, h2.1⟩, o, h1, h2.2.1⟩
def tSetd (P : Program) (w : World) (K : PySem.W.Frag) (td ty tx : TE) : TE := fun σ H Q => td σ H fun x H1 => ∃ d xs, x = .ref d ∧ RdAt P w K H1 d xs ∧ ty σ H1 fun y H2 => tx σ H2 fun z H3 => ∃ a ks ys, y = .ref a ∧ z = .bl true ∧ RdAt P w K H3 d ys ∧ RowK K H3 a ks ∧ ys.length ≤ 1000 ∧ (∀ x ∈ ys, x.2.2 = Value.bool true) ∧
  (ks ∈ ys.map (·.1) → Q (.bl true) H3) ∧ (ks ∉ ys.map (·.1) → Q (.bl true) (upd H3 d (rdO P w d (ys ++ [(ks, a, Value.bool true)]))))
theorem atKey_mem {xs : List RE} {k : List FK} : (∀ p, atKey xs k = some p → ∃ x ∈ xs, x.1 = k ∧ x.2 = p) ∧ (atKey xs k = none → k ∉ xs.map (·.1)) := by
  unfold atKey
  constructor
  · intro p hp
    cases hf : xs.find? (fun x => decide (x.1 = k)) with
    | none => rw [hf] at hp; cases hp
    | some x =>
      rw [hf] at hp
      injection hp with hp
      have h1 := List.find?_some hf
      exact ⟨x, List.mem_of_find?_eq_some hf, of_decide_eq_true h1, hp⟩
  · intro hn hm
    obtain ⟨x, hx, e⟩ := List.mem_map.mp hm
    cases hf : xs.find? (fun x => decide (x.1 = k)) with
    | none =>
      rw [List.find?_eq_none] at hf
      exact hf x hx (decide_eq_true e)
    | some y => rw [hf] at hn; cases hn
theorem pe_setd {X : Cx} {o e f : Expr} {td ty tx : TE} {apos cpos : Pos} {k : Nat} (room : Room k X.A) (ho : PE X o td) (he : PE X e ty) (hf : PE X f tx) (m : M2 X o "setdefault" apos e f cpos) : PE X (.Call (.Attribute o "setdefault" apos) [e, f] [] cpos) (tSetd X.prog X.w X.K td ty tx) := by
  refine ⟨fun pins s σ H Q I h => ?_⟩
  refine wpAny_Call_method m.base m.few m.line PySem.F.plainAttrs_dict PySem.F.slot_dict_setdefault PySem.F.type_dict_setdefault (thn (ho.run pins s σ H _ I h) fun u s1 ⟨v1, H1, I1, rv, q1⟩ => ?_)
  obtain ⟨d, xs, rfl, R1, q1⟩ := q1
  cases rv
  obtain ⟨t1, o1, g1, g2⟩ := rd_type I1 R1
  refine ⟨t1, ?nd, ?_⟩
  case nd =>
    intro a ea
    cases ea
    exact ⟨o1, g1, g2⟩
  rw [m.trees]
  refine Calls.callWith_builtin rfl (Calls.evalArgs_plain (Calls.spliced_cons (thn (he.run pins s1 σ H1 _ I1 q1) fun kv s2 ⟨v2, H2, I2, r2, q2⟩ => Calls.spliced_cons (thn (hf.run pins s2 σ H2 _ I2 q2) fun xv s3 ⟨v3, H3, I3, r3, q3⟩ => Calls.spliced_nil ?_))))
  obtain ⟨a, ks, ys, rfl, rfl, R3, rk, hl, hv, qa, qb⟩ := q3
  cases r2
  cases r3
  refine call_setdefault_heap (knd := rowKind X.prog X.w) (k := ks) (xs := ys) (by have := room.un; show _ + 1 < _; omega) (row_is I3 rk) (rd_low I3 R3) (rd_dict I3 R3) (fun p hp => ?_) (fun hn h' D' sb => ?_) (by rw [sizeLine_eq]; omega)
  · obtain ⟨x, hx, e1, e2⟩ := atKey_mem.1 p hp
    have := hv x hx
    rw [e2] at this
    rw [this]
    exact ⟨.bl true, H3, I3.tok _, rfl, qa (List.mem_map.mpr ⟨x, hx, e1⟩)⟩
  · have hn' := atKey_mem.2 hn
    refine ⟨.bl true, _, ?_, rfl, qb hn'⟩
    have es : storedH ys ks a (Value.bool true) = ys ++ [(ks, a, Value.bool true)] := by
      unfold storedH
      rw [hn]; rfl
    rw [es] at D'
    obtain ⟨o, es', ep, h1, h2, h3, h4, _, _⟩ := D'
    refine L2.d_write I3 ?_ sb ⟨o, h1⟩ ?_
    · rcases R3.at_ with h | ⟨_, h⟩ <;> rw [h]
      · exact trivial
      · exact trivial
    · unfold rdO
      unfold ObjOk
      refine ⟨⟨rd_low I3 R3, o, es', ep, h1, h2, h3, h4⟩, ⟨o, h1⟩, fun g1 g2 hq same => ?_⟩
      obtain ⟨lw, o, es', ep, h1, h2, h3, h4⟩ := hq
      exact ⟨lw, o, es', ep, same o h1, h2, h3, h4⟩
/-- list(d) of a dict of rows -/
def rListR (P : Program) (w : World) (K : PySem.W.Frag) : List V → Hp → VK → Prop := fun vs H Q => ∃ d xs, vs = [.ref d] ∧ RdAt P w K H d xs ∧ xs.length ≤ 1000 ∧ ∀ p, H p = none → Q (.ref p) (upd H p (.lst (xs.map fun x => V.ref x.2.1)))
theorem refs_vals : ∀ xs : List RE, Vals (xs.map fun x => V.ref x.2.1) (xs.map fun x => Value.ref x.2.1)
  | [] => .nil
  | x :: xs => .cons rfl (refs_vals xs)
theorem cr_listR {X : Cx} (hc : X.calm = true) : CallR X (.type "list") (rListR X.prog X.w X.K) := by
  intro pins s σ H vs us Q I r h
  obtain ⟨d, xs, rfl, R, hl, q⟩ := h
  cases r with
  | cons r1 r2 =>
    cases r1
    cases r2
    obtain ⟨o, es, ep, h1, h2, h3, h4, _⟩ := rd_dict I R
    have hsz : es.size = xs.length := by
      have := congrArg List.length h4
      simpa using this
    refine PySem.W.kdl_call (L2.kdl_raw (rd_low I R) h2 h3) (I.ok.hd hc) h1 (by rw [sizeLine_eq]; omega) fun h' tk acc c' kp hg hit => ?_
    have hv : Vals (xs.map fun x => V.ref x.2.1) acc.toList := by
      have ha : acc.toList = xs.map fun x => Value.ref x.2.1 := by
        refine List.ext_getElem? fun i => ?_
        rw [List.getElem?_map]
        obtain ⟨z1, z2⟩ := hit
        by_cases hi : i < acc.size
        · have e1 : acc[i]? = some acc[i] := Array.getElem?_eq_getElem hi
          obtain ⟨en, e2, e3⟩ := z2 i _ e1
          have e4 : acc.toList[i]? = some acc[i] := by rw [Array.getElem?_toList]; exact e1
          have e5 : es.toList[i]? = some en := by rw [Array.getElem?_toList]; exact e2
          rw [h4, List.getElem?_map] at e5
          rw [e4, e3]
          cases hx : xs[i]? with
          | none => rw [hx] at e5; cases e5
          | some x =>
            rw [hx] at e5
            injection e5 with e5
            rw [← e5]; rfl
        · have l1 : acc.toList.length ≤ i := by simpa using Nat.not_lt.mp hi
          have l2 : xs.length ≤ i := by rw [← hsz, ← z1]; simpa using l1
          rw [List.getElem?_eq_none l1, List.getElem?_eq_none l2]; rfl
      rw [ha]
      exact refs_vals xs
    refine ⟨.ref s.heap.objs.size, _, ?_, rfl, q _ I.fresh⟩
    refine L2.Inv.laid I kp (Nat.le_refl _) ?_
    exact ⟨by rw [List.length_map, sizeLine_eq]; omega, acc.toList, c', hv, by rw [hg]⟩
end Tq

/-! Tq, part L: statements. -/
namespace Tq
open PySem L2 Res

def noTup : Expr → Bool
  | .Tuple .. => false
  | _ => true
def isNm : Tg → Bool
  | .nm _ => true
  | _ => false
def lineOf : Expr → Nat := fun e => e.pos.line
/-- a comprehension whose list goes straight to a local name -/
def swB (S : Sx) (x : Str) (px : Pos) (e : Expr) : Bool := match e with
  | .ListComp _ _ scope p => decide (S.sc.names.lookup x = some .local) && (px.line == p.line) && !(scope.names.any fun (n, k) => n == x && (k == .local || k == .cell))
  | _ => false
/-- a comprehension whose list does not -/
def swN (S : Sx) (x : Str) (px : Pos) (e : Expr) : Bool := match e with
  | .ListComp _ _ scope p => decide (S.sc.names.lookup x ≠ some .local) || !(px.line == p.line) || scope.names.any fun (n, k) => n == x && (k == .local || k == .cell)
  | _ => false
def dirty (S : Sx) : Sx := { S with M := [] }
/-- makes a new thing -/
def frE : IE → Bool
  | .lst _ => true
  | .o2 .add _ _ => true
  | .o2 .mul _ _ => true
  | .o3 .sl _ _ _ => true
  | .o1 .list _ => true
  | .dsp _ _ => true
  | _ => false
def isComp : IE → Bool
  | .comp _ _ _ => true
  | .compIf _ _ _ _ => true
  | _ => false
def minus (M ms : List Nat) : List Nat := M.filter fun i => !(ms.contains i)
def pubS (S : Sx) (ms : List Nat) : Sx := { S with M := minus S.M ms }
/-- o.m(x): the parts -/
def mcall (m : Str) : Stmt → Option (Str × List Expr)
  | .Expr (.Call (.Attribute (.Name n _) a p) xs [] q) _ => if a = m ∧ (p.endLine == q.line) = true then some (n, xs) else none
  | _ => none
mutual
def chkS (S : Sx) : IS → Stmt → Bool
  | .pass, s => match s with | .Pass _ => true | _ => false
  | .asg t e, s => match s with
    | .Assign [tg] x _ => chkT S t tg && chkE S e x && !(lv S.M e) && (noComp x && (isNm t || noTup x) || isNm t && isComp e && (match tg with | .Name n p => swB S n p x | _ => false) || isNm t && (match tg with | .Name n p => swN S n p x | _ => false))
    | _ => false
  | .par i j a b, s => match s with
    | .Assign [.Tuple [.Name n p, .Name m q] _ _] (.Tuple [x, y] _ _) _ => decide (S.N[i]? = some n) && decide (S.N[j]? = some m) && decide (i ≠ j) && decide (S.sc.names.lookup n = some .local) && decide (S.sc.names.lookup m = some .local) && (p.line == q.line) && !(n == m) &&
        !(S.M.contains i) && !(S.M.contains j) && noStar x && noStar y && chkE S a x && chkE S b y && !(lv S.M a) && !(lv S.M b) && !([x, y].all (foldedForSure 8)) && !([x, y].all (constantsAlone 8))
    | _ => false
  | .bad, _ => true
  | .mset i e, s => match s with
    | .Assign [.Name n p] x _ => locB S i n && S.M.contains i && chkE S e x && (frE e && noComp x || isComp e && swB S n p x)
    | _ => false
  | .app i e, s => match mcall "append" s with
    | some (n, [x]) => visB S i n && S.M.contains i && noStar x && chkE S e x && !(lv S.M e)
    | _ => false
  | .ext i e, s => match mcall "extend" s with
    | some (n, [x]) => visB S i n && S.M.contains i && noStar x && chkE S e x && !(lv S.M e)
    | _ => false
  | .ins i a e, s => match mcall "insert" s with
    | some (n, [y, x]) => visB S i n && S.M.contains i && noStar y && noStar x && chkE S a y && chkE S e x && !(lv S.M e)
    | _ => false
  | .put i a e, s => match s with
    | .Assign [.Subscript (.Name n _) y _] x _ => visB S i n && S.M.contains i && chkE S a y && chkE S e x && !(lv S.M e) && noComp x
    | _ => false
  | .ret e, s => match s with | .Return (some x) _ => chkE (dirty S) e x | _ => false
  | .if_ c a b, s => match s with | .If x y z _ => chkB (dirty S) c x && chkSs S a y && chkSs S b z | _ => false
  | .for_ t it body, s => match s with | .For tg i b [] _ => chkT S t tg && chkIT S it tg i && noSet i && chkSs S body b | _ => false
  | .while_ _ c body, s => match s with | .While x b [] _ => chkB (dirty S) c x && chkSs S body b | _ => false
  | .appPop i j e, s => match mcall "append" s with
    | some (n, [.Call (.Attribute (.Name m _) a p) [x] [] q]) => decide (a = ("pop" : Str)) && (p.endLine == q.line) && visB S i n && visB S j m && S.M.contains i && S.M.contains j && noStar x && chkE S e x
    | _ => false
  | .exp e, s => match s with | .Expr x _ => chkE S e x && !(lv S.M e) && noComp x | _ => false
  | .try_ body, s => match s with | .Try b (_ :: _) [] [] _ => chkSs S body b | _ => false
def chkSs (S : Sx) : ISs → List Stmt → Bool
  | .nil, [] => true
  | .cons a as, s :: ss => chkS S a s && chkSs S as ss
  | .pub ms as, ss => ms.all (fun i => S.M.contains i) && chkSs (pubS S ms) as ss
  | .minus2 r o th v, ss => match ss with
    | [.Assign [.Name x7 p7] (.Call (.Name n pn) [lc] [] pc) pa, .Return (some (.ListComp (.Name xe pe) [⟨tg, it, [.Compare (.Name xr p1) [.NotIn] [.Name xt p2] pm], 0⟩] scope pl)) pr] =>
      chkT S (.nm th) (.Name x7 p7) && decide (n = ("dict" : Str)) && glB S "dict" && noStar lc && chkE S (.comp (.nm v) (.seq (.var o)) (.tup (.cons (.var v) (.cons (.bl true) .nil)))) lc &&
      chkIT S (.seq (.var r)) tg it && noSet it && blkC S.N S.sc scope (ownOf S (.nm v)) && chkT (blkS S scope) (.nm v) tg && visB (blkS S scope) v xe && visB (blkS S scope) v xr && visB (blkS S scope) th xt && decide (th ≠ v) && decide (r ≠ th)
    | _ => false
  | .once2 i j l, ss => match ss with
    | [.For tg it [.Expr (.Call (.Attribute (.Name x1 p1) m pa) [.Name x2 p2, .Constant (.bool true) jc pc] [] pb) pe] [] pf, .Return (some (.Call (.Name n pl) [.Name x3 p3] [] pq)) pr] =>
      chkT S (.nm l) tg && chkIT S (.seq (.var i)) tg it && noSet it && visB S j x1 && visB S l x2 && visB S j x3 && S.M.contains j && decide (l ≠ j) && decide (m = ("setdefault" : Str)) && (pa.endLine == pb.line) && decide (n = ("list" : Str)) && glB S "list"
    | _ => false
  | _, _ => false
end

/-! ### the state -/
structure SR (K : PySem.W.Frag) (M : List Nat) (H0 : Hp) (out : List Addr) (H : Hp) (Ps : List Addr) (σ : St) (env : En) : Prop where
  er : EnvR K M H (Ps ++ out) σ env
  ent : Same H0 H
  fr : ∀ p ∈ Ps, H0 p = none
  odom : ∀ q ∈ out, H0 q ≠ none
  own : ∀ (i : Nat) (d : D), M.contains i = true → env[i]? = some (some d) → ∃ p, σ[i]? = some (some (.ref p)) ∧ p ∈ Ps
mutual
theorem put_keep : ∀ {t : Tg} {d : D} {a a' : En}, t.put d a = .ok a' → Out t.slots a' a
  | .nm i, d, a, a', e => by
    cases e
    refine ⟨by simp, fun j hj => List.getElem?_set_ne fun z => hj (by simp [Tg.slots, z])⟩
  | .tu ts, d, a, a', e => by
    cases d with
    | tuple ds => exact puts_keep (t := ts) (ds := ds) e
    | _ => cases e
theorem puts_keep : ∀ {t : Tgs} {ds : List D} {a a' : En}, t.put ds a = .ok a' → Out t.slots a' a
  | .nil, [], a, a', e => by cases e; exact Out.refl _
  | .nil, _ :: _, _, _, e => by simp [Tgs.put] at e
  | .cons _ _, [], _, _, e => by simp [Tgs.put] at e
  | .cons t ts, d :: ds, a, a', e => by
    simp only [Tgs.put] at e
    obtain ⟨a1, e1, e2⟩ := bind_split e
    exact ((puts_keep e2).mono fun i hi => by simp [Tgs.slots, hi]).trans ((put_keep e1).mono fun i hi => by simp [Tgs.slots, hi])
end
mutual
theorem slots_out {S : Sx} : ∀ {t : Tg} {e : Expr}, chkT S t e = true → ∀ i ∈ t.slots, S.M.contains i = false
  | .nm i, e, h => by
    cases e with
    | Name x p =>
      simp only [chkT, Bool.and_eq_true, Bool.not_eq_true'] at h
      intro j hj
      simp only [Tg.slots, List.mem_singleton] at hj
      subst hj
      exact h.2
    | _ => simp [chkT] at h
  | .tu ts, e, h => by
    cases e with
    | Tuple es kk p => exact slotss_out (ts := ts) (es := es) (by simpa [chkT] using h)
    | _ => simp [chkT] at h
theorem slotss_out {S : Sx} : ∀ {ts : Tgs} {es : List Expr}, chkTs S ts es = true → ∀ i ∈ ts.slots, S.M.contains i = false
  | .nil, [], _ => fun i hi => by simp [Tgs.slots] at hi
  | .nil, _ :: _, h => by simp [chkTs] at h
  | .cons _ _, [], h => by simp [chkTs] at h
  | .cons t ts, e :: es, h => by
    simp only [chkTs, Bool.and_eq_true] at h
    intro i hi
    simp only [Tgs.slots, List.mem_append] at hi
    exact hi.elim (slots_out h.1.2 i) (slotss_out h.2 i)
end
section
variable {K : PySem.W.Frag} {M : List Nat} {H0 H H' : Hp} {out Ps Ps' : List Addr} {σ : St} {env : En}
theorem SR.same (r : SR K M H0 out H Ps σ env) (s : Same H H') : SR K M H0 out H' Ps σ env := ⟨r.er.same s, r.ent.trans s, r.fr, r.odom, r.own⟩
theorem SR.view (r : SR K M H0 out H Ps σ env) : Same (hide H (Ps ++ out)) (hide H (Ps ++ out)) := Same.refl _
/-- all slots plain, the caller's places hidden -/
theorem SR.dirty (r : SR K M H0 out H Ps σ env) : EnvR K [] H out σ env where
  get := fun i d e => by
    obtain ⟨v, h1, h2, h3⟩ := r.er.get i d e
    have sub : Same (hide H (Ps ++ out)) (hide H out) := fun a o h => by
      obtain ⟨q1, q2⟩ := hide_some h
      rw [hide_out fun z => q1 (List.mem_append_right _ z)]
      exact q2
    refine ⟨v, h1, .of ?_, fun z => by simp at z⟩
    rcases h2 with h2 | ⟨hb, h2⟩
    · exact h2.mono sub
    · obtain ⟨p, hp, hps⟩ := r.own i d hb e
      rw [h1] at hp
      have hp : v = .ref p := Option.some.inj (Option.some.inj hp)
      subst hp
      cases d with
      | list ds =>
        obtain ⟨p', xs, e1, e2, e3, e4, e5⟩ := h2
        cases e1
        refine .lst ?_ (e4.mono sub) e5
        rw [hide_out fun z => r.odom p z (r.fr p hps)]
        exact e3
      | dict ds =>
        obtain ⟨p', xs, e1, e2, e3, e4, e5⟩ := h2
        cases e1
        refine .dct (.inl ?_) (e4.mono sub) e5
        rw [hide_out fun z => r.odom p z (r.fr p hps)]
        exact e3
      | _ => exact False.elim h2
  inj := fun i j p d e hi _ _ _ _ _ _ => by simp at hi
  dom := fun q hq => r.er.dom q (List.mem_append_right _ hq)
  len := r.er.len
end
/-- what is wanted behind a statement -/
def FlPost (K : PySem.W.Frag) (M : List Nat) (H0 : Hp) (out : List Addr) (H : Hp) (Ps : List Addr) (Dn : Ends) : Fl → Prop
  | .next env' => ∀ σ' H' Ps', Same (hide H (Ps ++ out)) (hide H' (Ps' ++ out)) → SR K M H0 out H' Ps' σ' env' → Dn.nx σ' H'
  | .ret d => ∀ v H', Same H0 H' → Rp K (hide H' out) v d → Dn.rt v H'
theorem FlPost.step {K : PySem.W.Frag} {M : List Nat} {H0 H H1 : Hp} {out Ps Ps1 : List Addr} {Dn : Ends} {fl : Fl} (q : FlPost K M H0 out H Ps Dn fl) (s : Same (hide H (Ps ++ out)) (hide H1 (Ps1 ++ out))) : FlPost K M H0 out H1 Ps1 Dn fl := by
  cases fl with
  | next env' => exact fun σ' H' Ps' s' r' => q σ' H' Ps' (s.trans s') r'
  | ret d => exact q
/-- what a statement comes to -/
def EvS (K : PySem.W.Frag) (M : List Nat) (H0 : Hp) (out : List Addr) (t : TS) (σ : St) (H : Hp) (Ps : List Addr) (fl : Fl) : Prop := ∀ Dn : Ends, FlPost K M H0 out H Ps Dn fl → t Dn σ H
structure GdS (S : Sx) (k : Nat) (defs : Nat → Option FDef) (K : PySem.W.Frag) (X : Cx) : Prop where
  gd : Gd S k defs K X
  pas : PassesOwn (model X.prog X.w) X.A X.env X.xe
  kind : S.sc.kind = .function
section
variable (k : Nat) (defs : Nat → Option FDef) (K : PySem.W.Frag)
def OkS (S : Sx) (is : IS) (st : Stmt) : Prop := ∃ t, (∀ X, GdS S k defs K X → PS X st t) ∧ ∀ H0 out σ H env Ps fl, SR K S.M H0 out H Ps σ env → evalS (callF defs k) is env = .ok fl → EvS K S.M H0 out t σ H Ps fl
def OkSs (S : Sx) (is : ISs) (st : List Stmt) : Prop := ∃ t, (∀ X, GdS S k defs K X → PSs X st t) ∧ ∀ H0 out σ H env Ps fl, SR K S.M H0 out H Ps σ env → evalSs (callF defs k) is env = .ok fl → EvS K S.M H0 out t σ H Ps fl
end
section
variable {k : Nat} {defs : Nat → Option FDef} {K : PySem.W.Frag} {S : Sx}
theorem GdS.dirty {X : Cx} (g : GdS S k defs K X) : Gd (dirty S) k defs K X := ⟨g.gd.hK, g.gd.N, g.gd.nd, g.gd.sc, g.gd.calm, g.gd.room, g.gd.fn, g.gd.free, g.gd.gls, g.gd.glr, g.gd.gld, g.gd.fns⟩
theorem okS_pass {p : Pos} : OkS k defs K S .pass (.Pass p) := ⟨tNext, fun X _ => ps_pass, fun H0 out σ H env Ps fl r e Dn q => by
  simp only [evalS] at e; cases e
  exact q σ H Ps (Same.refl _) r⟩
theorem okS_ret {ie : IE} {e : Expr} {p : Pos} (h : OkE k defs K (dirty S) ie e) : OkS k defs K S (.ret ie) (.Return (some e) p) := by
  obtain ⟨t, t1, t2⟩ := h
  refine ⟨tRet t, fun X g => ps_ret (t1 X g.dirty), fun H0 out σ H env Ps fl r e Dn q => ?_⟩
  simp only [evalS] at e
  obtain ⟨d, e1, e⟩ := bind_split e
  cases e
  have := t2 σ H env out d r.dirty e1
  have hl : lv (dirty S).M ie = false := by cases ie <;> rfl
  rw [hl] at this
  exact this H (Same.refl _) Dn.rt fun v H1 s1 rv => q v H1 (r.ent.trans s1) rv.clean
theorem okS_if {c : IE} {a b : ISs} {x : Expr} {y z : List Stmt} {p : Pos} (hc : OkB k defs K (dirty S) c x) (ha : OkSs k defs K S a y) (hb : OkSs k defs K S b z) : OkS k defs K S (.if_ c a b) (.If x y z p) := by
  obtain ⟨tc, c1, c2⟩ := hc
  obtain ⟨ta, a1, a2⟩ := ha
  obtain ⟨tb, b1, b2⟩ := hb
  refine ⟨tIfS tc ta tb, fun X g => ps_if (c1 X g.dirty) (a1 X g) (b1 X g), fun H0 out σ H env Ps fl r e Dn q => ?_⟩
  simp only [evalS] at e
  obtain ⟨u, e1, e⟩ := bind_split e
  obtain ⟨t, e2, e⟩ := bind_split e
  refine c2 σ H env out t r.dirty (by rw [e1]; exact e2) H (Same.refl _) _ fun H1 s1 => ?_
  have r1 := r.same s1
  have q1 := q.step (hide_mono s1 (Ps ++ out))
  cases t with
  | true => exact iteT (a2 H0 out σ H1 env Ps fl r1 e Dn q1)
  | false => exact iteF (b2 H0 out σ H1 env Ps fl r1 e Dn q1)
theorem okSs_nil : OkSs k defs K S .nil [] := ⟨tNext, fun X _ => pss_nil, fun H0 out σ H env Ps fl r e Dn q => by
  simp only [evalSs] at e; cases e
  exact q σ H Ps (Same.refl _) r⟩
theorem okSs_cons {a : IS} {as : ISs} {s : Stmt} {ss : List Stmt} (ha : OkS k defs K S a s) (hs : OkSs k defs K S as ss) : OkSs k defs K S (.cons a as) (s :: ss) := by
  obtain ⟨ta, a1, a2⟩ := ha
  obtain ⟨tb, b1, b2⟩ := hs
  refine ⟨tSeq ta tb, fun X g => pss_cons (a1 X g) (b1 X g), fun H0 out σ H env Ps fl r e Dn q => ?_⟩
  simp only [evalSs] at e
  obtain ⟨f1, e1, e⟩ := bind_split e
  refine a2 H0 out σ H env Ps f1 r e1 { Dn with nx := tb Dn } ?_
  cases f1 with
  | next env1 =>
    intro σ1 H1 Ps1 s1 r1
    exact b2 H0 out σ1 H1 env1 Ps1 fl r1 e Dn (q.step s1)
  | ret d =>
    cases e
    exact q
theorem okS_while {n : Nat} {c : IE} {body : ISs} {x : Expr} {b : List Stmt} {p : Pos} (hc : OkB k defs K (dirty S) c x) (hb : OkSs k defs K S body b) : OkS k defs K S (.while_ n c body) (.While x b [] p) := by
  obtain ⟨tc, c1, c2⟩ := hc
  obtain ⟨tb, b1, b2⟩ := hb
  refine ⟨tWhile tc tb, fun X g => ps_while g.pas (c1 X g.dirty) (b1 X g), fun H0 out σ H env Ps fl r e Dn q => ?_⟩
  simp only [evalS] at e
  generalize hC : (fun e => (evalE (callF defs k) c e).bind truth) = C at e
  generalize hF : (fun e => evalSs (callF defs k) body e) = F at e
  refine ⟨fun m σ' H' => ∃ env' Ps', SR K S.M H0 out H' Ps' σ' env' ∧ Same (hide H (Ps ++ out)) (hide H' (Ps' ++ out)) ∧ whileD C F m env' = .ok fl, ⟨n, env, Ps, r, Same.refl _, e⟩, ?_⟩
  rintro m σ1 H1 ⟨env1, Ps1, r1, s1, e1⟩
  cases m with
  | zero => cases e1
  | succ m =>
    simp only [whileD] at e1
    obtain ⟨bb, eb, e1⟩ := bind_split e1
    rw [← hC] at eb
    refine c2 σ1 H1 env1 out bb r1.dirty eb H1 (Same.refl _) _ fun H2 s2 => ?_
    have r2 := r1.same s2
    have s12 := s1.trans (hide_mono s2 (Ps1 ++ out))
    cases bb with
    | true =>
      refine iteT ⟨fun σ' H' => ∃ env' Ps', SR K S.M H0 out H' Ps' σ' env' ∧ Same (hide H (Ps ++ out)) (hide H' (Ps' ++ out)) ∧ whileD C F m env' = .ok fl, fun σ' H' w => ⟨m, Nat.lt_succ_self m, w⟩, ?_⟩
      simp only [if_true] at e1
      obtain ⟨f1, ef, e1⟩ := bind_split e1
      rw [← hF] at ef
      refine b2 H0 out σ1 H2 env1 Ps1 f1 r2 ef _ ?_
      cases f1 with
      | next env2 => exact fun σ3 H3 Ps3 s3 r3 => ⟨env2, Ps3, r3, s12.trans s3, e1⟩
      | ret d =>
        cases e1
        exact q
    | false =>
      refine iteF ?_
      simp only [if_false, Bool.false_eq_true] at e1
      cases e1
      exact q σ1 H2 Ps1 s12 r2
theorem GdS.nox {X : Cx} (g : GdS S k defs K X) : GdS S k defs K X.nox := ⟨⟨g.gd.hK, g.gd.N, g.gd.nd, g.gd.sc, g.gd.calm, g.gd.room, g.gd.fn, g.gd.free, g.gd.gls, g.gd.glr, g.gd.gld, g.gd.fns⟩, PassesOwn.never, g.kind⟩
theorem okS_try {body : ISs} {b : List Stmt} {h : ExceptHandler} {hs : List ExceptHandler} {p : Pos} (hb : OkSs k defs K S body b) : OkS k defs K S (.try_ body) (.Try b (h :: hs) [] [] p) := by
  obtain ⟨tb, b1, b2⟩ := hb
  refine ⟨tb, fun X g => ps_try_thru0 (b1 X.nox g.nox), fun H0 out σ H env Ps fl r e => ?_⟩
  simp only [evalS] at e
  exact b2 H0 out σ H env Ps fl r e
theorem swap_noComp {e : Expr} {t : Option Expr} {l : Nat} {env : Env} (h : noComp e = true) : swapsWith e t l env = pure false := by
  cases e <;> first | rfl | cases h
theorem stores_name {x : Str} {p : Pos} {e : Expr} {env : Env} : swappedStores [.Name x p] e env = pure none := rfl
theorem stores_noTup {t e : Expr} {env : Env} (h : noTup e = true) : swappedStores [t] e env = pure none := by
  cases e <;> first | (cases t <;> rfl) | cases h
theorem swB_ok {x : Str} {px : Pos} {e : Expr} (h : swB S x px e = true) : ∃ elt gs scope p, e = .ListComp elt gs scope p ∧ S.sc.names.lookup x = some .local ∧ (px.line == p.line) = true ∧ (scope.names.any fun (n, k) => n == x && (k == .local || k == .cell)) = false := by
  unfold swB at h
  split at h
  · simp only [Bool.and_eq_true, decide_eq_true_eq, Bool.not_eq_true'] at h
    exact ⟨_, _, _, _, rfl, h.1.1, h.1.2, h.2⟩
  · cases h
theorem swN_ok {x : Str} {px : Pos} {e : Expr} {l : Nat} {X : Cx} (g : GdS S k defs K X) (h : swN S x px e = true) : swapsWith e (some (.Name x px)) l X.env = pure false := by
  unfold swN at h
  split at h
  · rename_i elt gs scope p
    have hk : X.env.kindOf x = S.sc.names.lookup x := by
      show X.env.scope.names.lookup x = _
      rw [g.gd.sc]
    show (pure (X.env.blockKind == .function && X.env.kindOf x == some .local && px.line == p.line && !(scope.names.any fun (n, k) => n == x && (k == .local || k == .cell))) : Sem Bool) = pure false
    congr 1
    rw [hk]
    simp only [Bool.or_eq_true, decide_eq_true_eq, Bool.not_eq_true'] at h
    rcases h with (h | h) | h
    · have : (S.sc.names.lookup x == some NameKind.local) = false := by
        cases q : S.sc.names.lookup x with
        | none => rfl
        | some kd => cases kd <;> first | rfl | exact absurd q h
      rw [this]; simp
    · rw [h]; simp
    · rw [h]; simp
  · cases h
/-- a comprehension's list stored as it is made -/
theorem okS_asgLc {i : Nat} {ie : IE} {x : Str} {px p : Pos} {e : Expr} (hp : ∃ t, (∀ X, GdS S k defs K X → PS X (.Assign [.Name x px] e p) (tAsg t (gName i))) ∧ ∀ σ H env Ps d, EnvR K S.M H Ps σ env → evalE (callF defs k) ie env = .ok d → EvD K t σ H Ps false d) (hm : S.M.contains i = false) :
    OkS k defs K S (.asg (.nm i) ie) (.Assign [.Name x px] e p) := by
  obtain ⟨t, t1, t2⟩ := hp
  refine ⟨tAsg t (gName i), t1, fun H0 out σ H env Ps fl r e Dn q => ?_⟩
  simp only [evalS] at e
  obtain ⟨d, e1, e⟩ := bind_split e
  obtain ⟨env', e2, e⟩ := bind_split e
  cases e
  cases e2
  refine t2 σ H env (Ps ++ out) d r.er e1 H (Same.refl _) _ fun v H1 s1 rv => ?_
  have r1 := r.same s1
  refine q _ H1 Ps (hide_mono s1 _) ⟨r1.er.set hm rv.clean, r1.ent, r1.fr, r1.odom, fun j d' hj he => ?_⟩
  have ne : i ≠ j := fun z => by subst z; rw [hm] at hj; cases hj
  rw [List.getElem?_set_ne ne] at he ⊢
  exact r1.own j d' hj he
theorem okS_exp {ie : IE} {e : Expr} {p : Pos} (h : OkE k defs K S ie e) (hl : lv S.M ie = false) (hn : noComp e = true) : OkS k defs K S (.exp ie) (.Expr e p) := by
  obtain ⟨te, t1, t2⟩ := h
  refine ⟨tDrop te, fun X g => ps_expr (t1 X g.gd) (swap_noComp hn), fun H0 out σ H env Ps fl r e Dn q => ?_⟩
  simp only [evalS] at e
  obtain ⟨d, e1, e⟩ := bind_split e
  cases e
  have := t2 σ H env (Ps ++ out) d r.er e1
  rw [hl] at this
  exact this H (Same.refl _) _ fun v H1 s1 rv => q σ H1 Ps (hide_mono s1 _) (r.same s1)
theorem okS_asg {t : Tg} {ie : IE} {tg e : Expr} {p : Pos} (h : OkE k defs K S ie e) (ht : chkT S t tg = true) (hl : lv S.M ie = false) (hs : ∀ X, GdS S k defs K X → swapsWith e (some tg) p.line X.env = pure false) (hw : ∀ env, swappedStores [tg] e env = pure none) (hst : noStar tg = true) : OkS k defs K S (.asg t ie) (.Assign [tg] e p) := by
  obtain ⟨te, t1, t2⟩ := h
  refine ⟨tAsg te (tgR K t), fun X g => ps_asg (t1 X g.gd) (tg_pg g.gd ht) (hs X g) (hw _) (by rw [asg_star hst]; rfl), fun H0 out σ H env Ps fl r e Dn q => ?_⟩
  simp only [evalS] at e
  obtain ⟨d, e1, e⟩ := bind_split e
  obtain ⟨env', e2, e⟩ := bind_split e
  cases e
  have := t2 σ H env (Ps ++ out) d r.er e1
  rw [hl] at this
  refine this H (Same.refl _) _ fun v H1 s1 rv => ?_
  have r1 := r.same s1
  refine tg_ok ht v σ H1 (Ps ++ out) env env' d _ r1.er rv.clean e2 fun σ' ou r2 => ?_
  refine q σ' H1 Ps (hide_mono s1 _) ⟨r2, r1.ent, r1.fr, r1.odom, fun j d' hj he => ?_⟩
  have nj : j ∉ t.slots := fun z => by rw [slots_out ht j z] at hj; cases hj
  rw [(put_keep e2).2 j nj] at he
  rw [ou.2 j nj]
  exact r1.own j d' hj he
theorem okS_par {i j : Nat} {a b : IE} {n m : Str} {x y : Expr} {p1 p2 p3 p4 p : Pos} {k1 k2 : Nat} (ha : OkE k defs K S a x) (hb : OkE k defs K S b y) (la : lv S.M a = false) (lb : lv S.M b = false) (sx : noStar x = true) (sy : noStar y = true)
    (hi : S.N[i]? = some n) (hj : S.N[j]? = some m) (hij : i ≠ j) (ln : S.sc.names.lookup n = some .local) (lm : S.sc.names.lookup m = some .local) (hline : (p1.line == p2.line) = true) (hnm : (n == m) = false)
    (mi : S.M.contains i = false) (mj : S.M.contains j = false) (hf : ([x, y].all (foldedForSure 8)) = false) (hcc : ([x, y].all (constantsAlone 8)) = false) (hk : S.sc.kind = .function) :
    OkS k defs K S (.par i j a b) (.Assign [.Tuple [.Name n p1, .Name m p2] k1 p3] (.Tuple [x, y] k2 p4) p) := by
  obtain ⟨ta, a1, a2⟩ := ha
  obtain ⟨tb, b1, b2⟩ := hb
  refine ⟨tPar i j (tCons ta (tCons tb tNil)), fun X g => ?_, fun H0 out σ H env Ps fl r e Dn q => ?_⟩
  · have kn : X.env.scope.names.lookup n = some .local := by rw [g.gd.sc]; exact ln
    have km : X.env.scope.names.lookup m = some .local := by rw [g.gd.sc]; exact lm
    refine ps_par g.gd.calm (by rw [g.gd.N]; exact g.gd.nd) (by rw [g.gd.N]; exact hi) (by rw [g.gd.N]; exact hj) hij kn km (pa_cons (a1 X g.gd) (pa_cons (b1 X g.gd) pa_nil (star1 sy)) (star1 sx)) ?_ rfl
    have bk : X.env.blockKind = .function := by
      unfold Env.blockKind
      rw [g.gd.sc, hk]; rfl
    have kn' : X.env.kindOf n = some .local := kn
    have km' : X.env.kindOf m = some .local := km
    have hl1 : (p1.line == p1.line) = true := by simp
    have hl2 : (p2.line == p1.line) = true := by
      have := eq_of_beq hline
      rw [this]; simp
    have nm' : (m == n) = false := by
      rw [beq_eq_false_iff_ne] at hnm ⊢
      exact Ne.symm hnm
    have ll : (some NameKind.local == some NameKind.local && true) = true := rfl
    unfold swappedStores
    simp only [List.length_cons, List.length_nil, bk, List.head?_cons, Option.map_some, Option.getD_some, Expr.pos, List.filterMap_cons, List.filterMap_nil, kn', km', hl1, hl2, hf, hcc, ll, if_true]
    refine (if_neg (by decide)).trans ?_
    refine (if_neg ?_).trans ?_
    · intro h
      simp only [List.any_cons, List.any_nil, Bool.or_false, Bool.or_eq_true] at h
      rcases h with h | h
      · split at h
        · cases sx
        · cases h
      · split at h
        · cases sy
        · cases h
    refine (if_neg ?_).trans ?_
    · intro h
      simp only [List.eraseDups_cons, List.eraseDups_nil, List.filter_cons, List.filter_nil, nm', Bool.not_false, if_true, List.length_cons, List.length_nil] at h
      exact absurd h (by decide)
    rfl
  · simp only [evalS] at e
    obtain ⟨u, e1, e⟩ := bind_split e
    obtain ⟨w, e2, e⟩ := bind_split e
    cases e
    have ha := a2 σ H env (Ps ++ out) u r.er e1
    rw [la] at ha
    refine ha H (Same.refl _) _ fun v H1 s1 rv => ?_
    have hb := b2 σ H env (Ps ++ out) w r.er e2
    rw [lb] at hb
    refine hb H1 s1 _ fun v2 H2 s2 rv2 => ⟨v, v2, rfl, ?_⟩
    have r2 := r.same (s1.trans s2)
    refine q _ H2 Ps (hide_mono (s1.trans s2) _) ⟨(r2.er.set mi (rv.clean.mono (hide_mono s2 _))).set mj rv2.clean, r2.ent, r2.fr, r2.odom, fun l d' hl he => ?_⟩
    have n1 : i ≠ l := fun z => by subst z; rw [mi] at hl; cases hl
    have n2 : j ≠ l := fun z => by subst z; rw [mj] at hl; cases hl
    rw [List.getElem?_set_ne n2, List.getElem?_set_ne n1] at he ⊢
    exact r2.own l d' hl he
theorem okS_for {t : Tg} {it : IT} {body : ISs} {tg i : Expr} {b : List Stmt} {p : Pos} (hi : OkI k defs K S it tg i) (hb : OkSs k defs K S body b) (ht : chkT S t tg = true) (hset : noSet i = true) : OkS k defs K S (.for_ t it body) (.For tg i b [] p) := by
  obtain ⟨wi, i1, i2⟩ := hi
  obtain ⟨tb, b1, b2⟩ := hb
  refine ⟨tFor wi (tgR K t) tb, fun X g => ps_for g.pas g.gd.calm (i1 X g.gd) (tg_pg g.gd ht) (b1 X g) (fun v => fold_plain hset v), fun H0 out σ H env Ps fl r e Dn q => ?_⟩
  simp only [evalS] at e
  obtain ⟨ds, e1, e⟩ := bind_split e
  refine i2 σ H env (Ps ++ out) ds r.er e1 H (Same.refl _) _ fun J H1 s1 itk => ?_
  obtain ⟨z, G, Y, w, stab, yl⟩ := itk
  generalize hf : (fun d e => (t.put d e).bind fun e' => evalSs (callF defs k) body e') = f at e
  refine for_it w (fun i σi Hi => ∃ envi Psi, SR K S.M H0 out Hi Psi σi envi ∧ Same (hide H1 (Ps ++ out)) (hide Hi (Psi ++ out)) ∧ forD f (ds.drop i) envi = .ok fl) ?_ ?_ ?_ ?_
  · exact ⟨env, Ps, r.same s1, Same.refl _, by simpa using e⟩
  · rintro i σi Hi hle ⟨envi, Psi, ri, si, _⟩
    exact stab _ Hi si
  · rintro i x σi Hi H' hlt ⟨envi, Psi, ri, si, ei⟩ y
    obtain ⟨s2, d, hd, rx⟩ := yl i (Psi ++ out) Hi x H' hlt si ri.er.dom y
    have hdrop : ds.drop i = d :: ds.drop (i + 1) := by
      have hlt' : i < ds.length := hlt
      rw [List.drop_eq_getElem_cons hlt']
      have : ds[i] = d := by
        rw [List.getElem?_eq_getElem hlt'] at hd
        exact Option.some.inj hd
      rw [this]
    rw [hdrop] at ei
    simp only [forD] at ei
    obtain ⟨fr, ef, ei⟩ := bind_split ei
    rw [← hf] at ef
    obtain ⟨env', ep, eb⟩ := bind_split ef
    have ri' := ri.same s2
    refine tg_ok ht x σi H' (Psi ++ out) envi env' d _ ri'.er rx ep fun σ2 ou r2 => ?_
    have rs : SR K S.M H0 out H' Psi σ2 env' := ⟨r2, ri'.ent, ri'.fr, ri'.odom, fun j d' hj he => by
      have nj : j ∉ t.slots := fun z => by rw [slots_out ht j z] at hj; cases hj
      rw [(put_keep ep).2 j nj] at he
      rw [ou.2 j nj]
      exact ri'.own j d' hj he⟩
    refine b2 H0 out σ2 H' env' Psi fr rs eb _ ?_
    cases fr with
    | next e2 => exact fun σ3 H3 Ps3 s3 r3 => ⟨e2, Ps3, r3, (si.trans (hide_mono s2 _)).trans s3, ei⟩
    | ret dd =>
      cases ei
      exact q
  · rintro σn Hn ⟨envn, Psn, rn, sn, en⟩
    rw [List.drop_length] at en
    simp only [forD] at en
    cases en
    exact q σn Hn Psn ((hide_mono s1 _).trans sn) rn
end
end Tq

/-! Tq, part W: things that a def changes. -/
namespace Tq
open PySem L2 Res
section
variable {K : PySem.W.Frag} {M : List Nat} {H0 H H' : Hp} {out Ps Ps' : List Addr} {σ : St} {env : En}
/-- what stands in a slot of one's own -/
theorem SR.priv (r : SR K M H0 out H Ps σ env) {i : Nat} {d : D} (hm : M.contains i = true) (he : env[i]? = some (some d)) : ∃ p, σ[i]? = some (some (.ref p)) ∧ p ∈ Ps ∧ Pv K H (Ps ++ out) (.ref p) d := by
  obtain ⟨v, h1, _, h3⟩ := r.er.get i d he
  obtain ⟨p, h4, h5⟩ := r.own i d hm he
  rw [h1] at h4
  cases h4
  exact ⟨p, h1, h5, h3 hm⟩
theorem Pv.other {v : V} {d : D} {Qs : List Addr} {p : Addr} {o : HO} (h : Pv K H Qs v d) (hp : p ∈ Qs) (ne : v ≠ .ref p) : Pv K (upd H p o) Qs v d := by
  cases d with
  | list ds =>
    obtain ⟨q, xs, rfl, hq, e, r, z⟩ := h
    exact ⟨q, xs, rfl, hq, by rw [upd_ne (fun z => ne (by rw [z]))]; exact e, by rw [hide_upd_in hp]; exact r, z⟩
  | dict ds =>
    obtain ⟨q, xs, rfl, hq, e, r, z⟩ := h
    exact ⟨q, xs, rfl, hq, by rw [upd_ne (fun z => ne (by rw [z]))]; exact e, by rw [hide_upd_in hp]; exact r, z⟩
  | _ => exact False.elim h
/-- it is changed -/
theorem SR.write (r : SR K M H0 out H Ps σ env) {i : Nat} {d d' : D} {p : Addr} {o : HO} (hm : M.contains i = true) (he : env[i]? = some (some d)) (hs : σ[i]? = some (some (.ref p))) (hp : p ∈ Ps) (hv : Pv K (upd H p o) (Ps ++ out) (.ref p) d') :
    SR K M H0 out (upd H p o) Ps σ (env.set i (some d')) where
  er := {
    get := fun j e h => by
      have hpo : p ∈ Ps ++ out := List.mem_append_left _ hp
      by_cases hj : i = j
      · subst hj
        have hl : i < env.length := by
          by_cases hl : i < env.length
          · exact hl
          · rw [List.getElem?_eq_none (by omega)] at he; cases he
        rw [List.getElem?_set_self hl] at h
        cases h
        exact ⟨_, hs, .inr ⟨hm, hv⟩, fun _ => hv⟩
      · rw [List.getElem?_set_ne hj] at h
        obtain ⟨v, h1, h2, h3⟩ := r.er.get j e h
        refine ⟨v, h1, ?_, fun z => ?_⟩
        · rcases h2 with h2 | ⟨hb, h2⟩
          · exact .inl (by rw [hide_upd_in hpo]; exact h2)
          · refine .inr ⟨hb, h2.other hpo fun z => ?_⟩
            subst z
            exact r.er.inj i j p d e hm hb hj he h hs h1
        · refine (h3 z).other hpo fun zz => ?_
          subst zz
          exact r.er.inj i j p d e hm z hj he h hs h1
    inj := fun a b q d1 e1 ha hb hab h1 h2 h3 h4 => by
      have f : ∀ j x, (env.set i (some d'))[j]? = some (some x) → ∃ y, env[j]? = some (some y) := fun j x h => by
        by_cases hj : i = j
        · subst hj; exact ⟨d, he⟩
        · rw [List.getElem?_set_ne hj] at h; exact ⟨x, h⟩
      obtain ⟨y1, g1⟩ := f a d1 h1
      obtain ⟨y2, g2⟩ := f b e1 h2
      exact r.er.inj a b q y1 y2 ha hb hab g1 g2 h3 h4
    dom := fun q hq z => by
      by_cases e : q = p
      · subst e; rw [upd_same] at z; cases z
      · rw [upd_ne e] at z; exact r.er.dom q hq z
    len := by rw [List.length_set]; exact r.er.len }
  ent := fun a u h => by rw [upd_ne (ne_of_none h (r.fr p hp))]; exact r.ent a u h
  fr := r.fr
  odom := r.odom
  own := fun j e hj h => by
    by_cases hij : i = j
    · subst hij; exact ⟨p, hs, hp⟩
    · rw [List.getElem?_set_ne hij] at h
      exact r.own j e hj h
theorem hide_write {p : Addr} {o : HO} (hp : p ∈ Ps) : Same (hide H (Ps ++ out)) (hide (upd H p o) (Ps ++ out)) := by
  rw [hide_upd_in (List.mem_append_left _ hp)]
  exact Same.refl _
/-- a new thing to a slot -/
theorem SR.fresh (r : SR K M H0 out H Ps σ env) {i : Nat} {d : D} {v : V} (hm : M.contains i = true) (s : Same H H') (f : Fr K H H' (Ps ++ out) v d) : ∃ p, SR K M H0 out H' (p :: Ps) (σ.set i (some v)) (env.set i (some d)) ∧ Same (hide H (Ps ++ out)) (hide H' (p :: Ps ++ out)) := by
  have all : ∃ p, v = .ref p ∧ H p = none ∧ H' p ≠ none ∧ Pv K H' (p :: Ps ++ out) v d := by
    cases d with
    | list ds =>
      obtain ⟨p, xs, rfl, h1, h2, h3, h4⟩ := f
      exact ⟨p, rfl, h1, by rw [h2]; simp, p, xs, rfl, by simp, h2, h3, h4⟩
    | dict kvs =>
      obtain ⟨p, xs, rfl, h1, h2, h3, h4⟩ := f
      exact ⟨p, rfl, h1, by rw [h2]; simp, p, xs, rfl, by simp, h2, h3, h4⟩
    | _ => exact False.elim f
  obtain ⟨p, rfl, h1, h2, h3⟩ := all
  have view : Same (hide H (Ps ++ out)) (hide H' (p :: Ps ++ out)) := fun a o h => by
    obtain ⟨q1, q2⟩ := hide_some h
    have ne : a ≠ p := ne_of_none q2 h1
    rw [hide_out (by simp only [List.cons_append, List.mem_cons, not_or]; exact ⟨ne, q1⟩)]
    exact s _ _ q2
  have kp : Keep (Ps ++ out) H (p :: Ps ++ out) H' := {
    view := view
    priv := fun q hq => ⟨List.mem_cons_of_mem _ hq, by
      cases e : H q with
      | none => exact absurd e (r.er.dom q hq)
      | some o => exact s _ _ e⟩
    dom := fun q hq z => by
      rcases List.mem_cons.mp hq with rfl | hq
      · exact h2 z
      · exact r.er.dom q hq (s.free z) }
  have r' := r.er.keep kp
  refine ⟨p, ⟨⟨fun j e h => ?_, fun a b q d1 e1 ha hb hab g1 g2 g3 g4 => ?_, r'.dom, by simp [r'.len]⟩, r.ent.trans s, fun q hq => ?_, r.odom, fun j e hj h => ?_⟩, view⟩
  · by_cases hj : i = j
    · subst hj
      by_cases hl : i < env.length
      · rw [List.getElem?_set_self hl] at h
        cases h
        exact ⟨_, List.getElem?_set_self (by rw [r'.len]; exact hl), .inr ⟨hm, h3⟩, fun _ => h3⟩
      · rw [List.getElem?_eq_none (by simpa using hl)] at h; cases h
    · rw [List.getElem?_set_ne hj] at h ⊢
      exact r'.get j e h
  · -- two slots, one place
    have old : ∀ j x, i ≠ j → M.contains j = true → (env.set i (some d))[j]? = some (some x) → (σ.set i (some (.ref p)))[j]? ≠ some (some (.ref p)) := fun j x hj hmj g z => by
      rw [List.getElem?_set_ne hj] at g z
      obtain ⟨q', w1, w2⟩ := r.own j x hmj g
      rw [z] at w1
      cases w1
      exact r.er.dom p (List.mem_append_left _ w2) h1
    by_cases ia : i = a
    · subst ia
      have e3 : q = p := by
        by_cases hl : i < σ.length
        · rw [List.getElem?_set_self hl] at g3; cases g3; rfl
        · rw [List.getElem?_eq_none (by simpa using hl)] at g3; cases g3
      subst e3
      exact old b e1 hab hb g2 g4
    · by_cases ib : i = b
      · subst ib
        have e3 : q = p := by
          by_cases hl : i < σ.length
          · rw [List.getElem?_set_self hl] at g4; cases g4; rfl
          · rw [List.getElem?_eq_none (by simpa using hl)] at g4; cases g4
        subst e3
        exact old a d1 ia ha g1 g3
      · rw [List.getElem?_set_ne ia] at g1 g3
        rw [List.getElem?_set_ne ib] at g2 g4
        exact r'.inj a b q d1 e1 ha hb hab g1 g2 g3 g4
  · rcases List.mem_cons.mp hq with rfl | hq
    · exact r.ent.free h1
    · exact r.fr q hq
  · by_cases hij : i = j
    · subst hij
      by_cases hl : i < σ.length
      · exact ⟨p, List.getElem?_set_self hl, List.mem_cons_self⟩
      · rw [List.getElem?_eq_none (by rw [List.length_set, ← r'.len]; omega)] at h; cases h
    · rw [List.getElem?_set_ne hij] at h ⊢
      obtain ⟨q, w1, w2⟩ := r.own j e hj h
      exact ⟨q, w1, List.mem_cons_of_mem _ w2⟩
/-! ### from one's own to all -/
def isLive (env : En) (i : Nat) : Bool := match env[i]? with
  | some (some _) => true
  | _ => false
def keptPs (σ : St) (env : En) (ms : List Nat) (Ps : List Addr) : List Addr := Ps.filter fun p => !(ms.any fun i => isLive env i && decide (σ[i]? = some (some (V.ref p))))
theorem mem_kept {ms : List Nat} {p : Addr} : p ∈ keptPs σ env ms Ps ↔ p ∈ Ps ∧ ∀ i ∈ ms, isLive env i = true → σ[i]? ≠ some (some (V.ref p)) := by
  unfold keptPs
  rw [List.mem_filter]
  simp only [Bool.not_eq_true', List.any_eq_false, Bool.and_eq_true, decide_eq_true_eq, not_and]
theorem live_of {i : Nat} {d : D} (h : env[i]? = some (some d)) : isLive env i = true := by
  unfold isLive; rw [h]
theorem of_live {i : Nat} (h : isLive env i = true) : ∃ d, env[i]? = some (some d) := by
  unfold isLive at h
  split at h
  · exact ⟨_, by assumption⟩
  · cases h
theorem minus_in {ms : List Nat} {i : Nat} : (minus M ms).contains i = true ↔ M.contains i = true ∧ i ∉ ms := by
  unfold minus
  rw [List.contains_iff_mem, List.mem_filter, List.contains_iff_mem]
  simp
theorem SR.pub (r : SR K M H0 out H Ps σ env) {ms : List Nat} (hms : ∀ i ∈ ms, M.contains i = true) : SR K (minus M ms) H0 out H (keptPs σ env ms Ps) σ env ∧ Same (hide H (Ps ++ out)) (hide H (keptPs σ env ms Ps ++ out)) := by
  have sub : ∀ q, q ∈ keptPs σ env ms Ps ++ out → q ∈ Ps ++ out := fun q hq => by
    rcases List.mem_append.mp hq with h | h
    · exact List.mem_append_left _ (mem_kept.mp h).1
    · exact List.mem_append_right _ h
  have view : Same (hide H (Ps ++ out)) (hide H (keptPs σ env ms Ps ++ out)) := fun a o h => by
    obtain ⟨q1, q2⟩ := hide_some h
    rw [hide_out fun z => q1 (sub a z)]
    exact q2
  have keep : ∀ j d p, M.contains j = true → j ∉ ms → env[j]? = some (some d) → σ[j]? = some (some (V.ref p)) → p ∈ Ps → p ∈ keptPs σ env ms Ps := fun j d p hj hn he hs hp => by
    refine mem_kept.mpr ⟨hp, fun i hi hl z => ?_⟩
    obtain ⟨d', hd'⟩ := of_live hl
    exact r.er.inj i j p d' d (hms i hi) hj (fun e => hn (e ▸ hi)) hd' he z hs
  refine ⟨⟨⟨fun j d he => ?_, fun a b q d1 e1 ha hb hab g1 g2 g3 g4 => r.er.inj a b q d1 e1 (minus_in.mp ha).1 (minus_in.mp hb).1 hab g1 g2 g3 g4, fun q hq => r.er.dom q (sub q hq), r.er.len⟩, r.ent, fun q hq => r.fr q (mem_kept.mp hq).1, r.odom, fun j d hj he => ?_⟩, view⟩
  · obtain ⟨v, h1, h2, h3⟩ := r.er.get j d he
    by_cases hj : M.contains j = true
    · obtain ⟨p, h4, h5⟩ := r.own j d hj he
      rw [h1] at h4
      cases h4
      have pv := h3 hj
      by_cases hn : j ∈ ms
      · have nc : (minus M ms).contains j = false := by
          cases q : (minus M ms).contains j with
          | false => rfl
          | true => exact absurd hn (minus_in.mp q).2
        have np : p ∉ keptPs σ env ms Ps ++ out := fun z => by
          rcases List.mem_append.mp z with z | z
          · exact (mem_kept.mp z).2 j hn (live_of he) h1
          · exact r.odom p z (r.fr p h5)
        refine ⟨_, h1, .inl ?_, fun z => by rw [nc] at z; cases z⟩
        cases d with
        | list ds =>
          obtain ⟨q, xs, e1, hq, e, rr, z⟩ := pv
          cases e1
          exact .lst (by rw [hide_out np]; exact e) (rr.mono view) z
        | dict ds =>
          obtain ⟨q, xs, e1, hq, e, rr, z⟩ := pv
          cases e1
          exact .dct (.inl (by rw [hide_out np]; exact e)) (rr.mono view) z
        | _ => exact False.elim pv
      · have yc : (minus M ms).contains j = true := minus_in.mpr ⟨hj, hn⟩
        have pk : p ∈ keptPs σ env ms Ps ++ out := List.mem_append_left _ (keep j d p hj hn he h1 h5)
        have pv' : Pv K H (keptPs σ env ms Ps ++ out) (.ref p) d := by
          cases d with
          | list ds =>
            obtain ⟨q, xs, e1, hq, e, rr, z⟩ := pv
            cases e1
            exact ⟨p, xs, rfl, pk, e, rr.mono view, z⟩
          | dict ds =>
            obtain ⟨q, xs, e1, hq, e, rr, z⟩ := pv
            cases e1
            exact ⟨p, xs, rfl, pk, e, rr.mono view, z⟩
          | _ => exact False.elim pv
        exact ⟨_, h1, .inr ⟨yc, pv'⟩, fun _ => pv'⟩
    · have nc : (minus M ms).contains j = false := by
        cases q : (minus M ms).contains j with
        | false => rfl
        | true => exact absurd (minus_in.mp q).1 hj
      refine ⟨v, h1, .inl ?_, fun z => by rw [nc] at z; cases z⟩
      rcases h2 with h2 | ⟨hb, _⟩
      · exact h2.mono view
      · exact absurd hb hj
  · obtain ⟨h6, h7⟩ := minus_in.mp hj
    obtain ⟨p, h4, h5⟩ := r.own j d h6 he
    exact ⟨p, h4, keep j d p h6 h7 he h4 h5⟩
theorem dropE_len (env : En) : ∀ ms, (dropE env ms).length = env.length
  | [] => rfl
  | v :: vs => by unfold dropE; rw [List.length_set, dropE_len env vs]
theorem dropE_some {i : Nat} {x : D} : ∀ {ms : List Nat}, (dropE env ms)[i]? = some (some x) → env[i]? = some (some x) ∧ i ∉ ms
  | [], h => ⟨h, by simp⟩
  | v :: vs, h => by
    unfold dropE at h
    by_cases hi : v = i
    · subst hi
      by_cases hv : v < (dropE env vs).length
      · rw [List.getElem?_set_self hv] at h; cases h
      · rw [List.getElem?_eq_none (by simpa using hv)] at h; cases h
    · rw [List.getElem?_set_ne hi] at h
      obtain ⟨h1, h2⟩ := dropE_some h
      exact ⟨h1, by simp only [List.mem_cons, not_or]; exact ⟨fun e => hi e.symm, h2⟩⟩
theorem SR.drop {ms : List Nat} (r : SR K (minus M ms) H0 out H Ps σ env) : SR K M H0 out H Ps σ (dropE env ms) where
  er := {
    get := fun j d he => by
      obtain ⟨h1, h2⟩ := dropE_some he
      obtain ⟨v, g1, g2, g3⟩ := r.er.get j d h1
      have e : (minus M ms).contains j = M.contains j := by
        cases q : M.contains j with
        | true => exact minus_in.mpr ⟨q, h2⟩
        | false =>
          cases q2 : (minus M ms).contains j with
          | false => rfl
          | true => rw [(minus_in.mp q2).1] at q; cases q
      rw [e] at g2 g3
      exact ⟨v, g1, g2, g3⟩
    inj := fun a b q d1 e1 ha hb hab g1 g2 g3 g4 => by
      obtain ⟨a1, a2⟩ := dropE_some g1
      obtain ⟨b1, b2⟩ := dropE_some g2
      exact r.er.inj a b q d1 e1 (minus_in.mpr ⟨ha, a2⟩) (minus_in.mpr ⟨hb, b2⟩) hab a1 b1 g3 g4
    dom := r.er.dom
    len := by rw [dropE_len]; exact r.er.len }
  ent := r.ent
  fr := r.fr
  odom := r.odom
  own := fun j d hj he => by
    obtain ⟨h1, h2⟩ := dropE_some he
    exact r.own j d (minus_in.mpr ⟨hj, h2⟩) h1
end
section
variable {k : Nat} {defs : Nat → Option FDef} {K : PySem.W.Frag} {S : Sx}
theorem GdS.pub {X : Cx} {ms : List Nat} (g : GdS S k defs K X) : GdS (pubS S ms) k defs K X := ⟨⟨g.gd.hK, g.gd.N, g.gd.nd, g.gd.sc, g.gd.calm, g.gd.room, g.gd.fn, g.gd.free, g.gd.gls, g.gd.glr, g.gd.gld, g.gd.fns⟩, g.pas, g.kind⟩
theorem okSs_pub {ms : List Nat} {as : ISs} {ss : List Stmt} (hms : ∀ i ∈ ms, S.M.contains i = true) (h : OkSs k defs K (pubS S ms) as ss) : OkSs k defs K S (.pub ms as) ss := by
  obtain ⟨t, t1, t2⟩ := h
  refine ⟨t, fun X g => t1 X g.pub, fun H0 out σ H env Ps fl r e Dn q => ?_⟩
  simp only [evalSs] at e
  obtain ⟨f1, e1, e⟩ := bind_split e
  obtain ⟨r', view⟩ := r.pub hms
  refine t2 H0 out σ H env _ f1 r' e1 Dn ?_
  cases f1 with
  | next env1 =>
    cases e
    intro σ1 H1 Ps1 s1 r1
    exact q σ1 H1 Ps1 (view.trans s1) (SR.drop r1)
  | ret d =>
    cases e
    exact q
theorem okS_bad {st : Stmt} : OkS k defs K S .bad st := ⟨fun _ _ _ => False, fun X g => ⟨fun _ _ _ _ _ _ h => False.elim h⟩, fun H0 out σ H env Ps fl r e => by simp only [evalS] at e; cases e⟩
/-- a new thing to a name -/
theorem okS_mset {i : Nat} {ie : IE} {st : Stmt} (hm : S.M.contains i = true) (hp : ∃ t, (∀ X, GdS S k defs K X → PS X st (tAsg t (gName i))) ∧ ∀ σ H env Ps d, EnvR K S.M H Ps σ env → evalE (callF defs k) ie env = .ok d → freshD d = true → EvF K t σ H Ps d) : OkS k defs K S (.mset i ie) st := by
  obtain ⟨t, t1, t2⟩ := hp
  refine ⟨tAsg t (gName i), t1, fun H0 out σ H env Ps fl r e Dn q => ?_⟩
  simp only [evalS] at e
  obtain ⟨d, e1, e⟩ := bind_split e
  unfold msetD at e
  split at e
  · rename_i hf
    cases e
    refine t2 σ H env (Ps ++ out) d r.er e1 hf H (Same.refl _) _ fun v H1 s1 f => ?_
    obtain ⟨p, r1, view⟩ := r.fresh hm s1 f
    exact q _ H1 (p :: Ps) view r1
  · cases e
theorem okF_mset {i : Nat} {ie : IE} {n : Str} {p pn : Pos} {e : Expr} (hm : S.M.contains i = true) (hl : locB S i n = true) (h : OkF k defs K S ie e) (hc : noComp e = true) : OkS k defs K S (.mset i ie) (.Assign [.Name n pn] e p) := by
  obtain ⟨t, t1, t2⟩ := h
  refine okS_mset hm ⟨t, fun X g => ?_, t2⟩
  obtain ⟨l1, l2, l3⟩ := g.gd.loc hl
  exact ps_asg (t1 X g.gd) (pg_name (by rw [g.gd.N]; exact g.gd.nd) l1 l2 l3) (show swapsWith e (some (.Name n pn)) p.line X.env = pure false from swap_noComp hc) stores_name rfl
theorem RpAll.erase {K : PySem.W.Frag} {H : Hp} : ∀ {xs : List V} {ds : List D} (n : Nat), RpAll K H xs ds → RpAll K H (xs.eraseIdx n) (ds.eraseIdx n)
  | _, _, n, .nil => by simp only [List.eraseIdx_nil]; exact .nil
  | _, _, 0, .cons r t => t
  | _, _, n + 1, .cons r t => .cons r (RpAll.erase n t)
theorem mcall_ok {m n : Str} {st : Stmt} {xs : List Expr} (h : mcall m st = some (n, xs)) : ∃ p0 p q p2, st = .Expr (.Call (.Attribute (.Name n p0) m p) xs [] q) p2 ∧ (p.endLine == q.line) = true := by
  unfold mcall at h
  split at h
  · split at h
    · rename_i hc
      cases h
      obtain ⟨rfl, h1⟩ := hc
      exact ⟨_, _, _, _, rfl, h1⟩
    · cases h
  · cases h
theorem few1 {X : Cx} {x : Expr} {q : Pos} (h : noStar x = true) : ((backTo q (starEach [x] X.env)).all (fun x => !x.1) && (backToKw q (keywordEach [] X.env)).all (fun x => x.1.isSome) && decide (([x] : List Expr).length + ([] : List Keyword).length + (if ([] : List Keyword).isEmpty then 0 else 1) < 30)) = true := by
  rw [star1 h]; rfl
theorem few2 {X : Cx} {y x : Expr} {q : Pos} (h' : noStar y = true) (h : noStar x = true) : ((backTo q (starEach [y, x] X.env)).all (fun x => !x.1) && (backToKw q (keywordEach [] X.env)).all (fun x => x.1.isSome) && decide (([y, x] : List Expr).length + ([] : List Keyword).length + (if ([] : List Keyword).isEmpty then 0 else 1) < 30)) = true := by
  rw [star1 h', star1 h]; rfl
theorem okS_app {i : Nat} {ie : IE} {n : Str} {st : Stmt} {x : Expr} (h : mcall "append" st = some (n, [x])) (hv : visB S i n = true) (hm : S.M.contains i = true) (hs : noStar x = true) (hx : OkE k defs K S ie x) (hl : lv S.M ie = false) : OkS k defs K S (.app i ie) st := by
  obtain ⟨p0, p, q, p2, rfl, hline⟩ := mcall_ok h
  obtain ⟨t, t1, t2⟩ := hx
  refine ⟨tDrop (tBM K "list" rAppend (tVar i) (tCons t tNil)), fun X g => ?_, fun H0 out σ H env Ps fl r e Dn qq => ?_⟩
  · obtain ⟨a, b, c, d⟩ := g.gd.vis hv
    refine ps_expr ?_
    exact g.gd.hK ▸ pe_bm PySem.F.plainAttrs_list PySem.F.slot_list_append PySem.F.type_list_append mt_append (pe_var a b c d) (pa_cons (t1 X g.gd) pa_nil (star1 hs)) rfl (few1 hs) hline (star1 hs) rfl
  · simp only [evalS] at e
    obtain ⟨d, e1, e⟩ := bind_split e
    cases he : env[i]? with
    | none => rw [he] at e; cases e
    | some o =>
      rw [he] at e
      cases o with
      | none => cases e
      | some y =>
        cases y with
        | list ds =>
          have e : (if decide (ds.length < sizeLine) = true then Res.ok (Fl.next (env.set i (some (.list (ds ++ [d]))))) else .bad) = .ok fl := e
          split at e
          · rename_i hz
            cases e
            have hz := of_decide_eq_true hz
            obtain ⟨p, s1, s2, pv⟩ := r.priv hm he
            obtain ⟨p', xs, ee, hp, hh, rr, zz⟩ := pv
            cases ee
            refine ⟨_, s1, .inl ⟨rfl, xs, SqL.of hh⟩, ?_⟩
            have := t2 σ H env (Ps ++ out) d r.er e1
            rw [hl] at this
            refine this H (Same.refl _) _ fun v H1 sm rv => ?_
            have r1 := r.same sm
            have hh1 : H1 p = some (.lst xs) := sm _ _ hh
            refine ⟨p, xs, v, rfl, rfl, hh1, by rw [rr.length]; exact hz, qq _ _ Ps ((hide_mono sm _).trans (hide_write s2)) (r1.write hm he s1 s2 ⟨p, _, rfl, hp, upd_same, ?_, ?_⟩)⟩
            · rw [hide_upd_in hp]
              exact (rr.mono (hide_mono sm _)).append (.cons rv.clean .nil)
            · rw [List.length_append]; simp; omega
          · cases e
        | _ => cases e
theorem okS_ext {i : Nat} {ie : IE} {n : Str} {st : Stmt} {x : Expr} (h : mcall "extend" st = some (n, [x])) (hv : visB S i n = true) (hm : S.M.contains i = true) (hs : noStar x = true) (hx : OkE k defs K S ie x) (hl : lv S.M ie = false) : OkS k defs K S (.ext i ie) st := by
  obtain ⟨p0, p, q, p2, rfl, hline⟩ := mcall_ok h
  obtain ⟨t, t1, t2⟩ := hx
  refine ⟨tDrop (tBM K "list" rExtend (tVar i) (tCons t tNil)), fun X g => ?_, fun H0 out σ H env Ps fl r e Dn qq => ?_⟩
  · obtain ⟨a, b, c, d⟩ := g.gd.vis hv
    refine ps_expr ?_
    exact g.gd.hK ▸ pe_bm PySem.F.plainAttrs_list PySem.F.slot_list_extend PySem.F.type_list_extend mt_extend (pe_var a b c d) (pa_cons (t1 X g.gd) pa_nil (star1 hs)) rfl (few1 hs) hline (star1 hs) rfl
  · simp only [evalS] at e
    obtain ⟨d, e1, e⟩ := bind_split e
    cases he : env[i]? with
    | none => rw [he] at e; cases e
    | some o =>
      rw [he] at e
      cases o with
      | none => cases e
      | some y =>
        cases y with
        | list ds =>
          cases d with
          | list es =>
            have e : (if decide (ds.length + es.length ≤ sizeLine) = true then Res.ok (Fl.next (env.set i (some (.list (ds ++ es))))) else .bad) = .ok fl := e
            split at e
            · rename_i hz
              cases e
              have hz := of_decide_eq_true hz
              obtain ⟨p, s1, s2, pv⟩ := r.priv hm he
              obtain ⟨p', xs, ee, hp, hh, rr, zz⟩ := pv
              cases ee
              refine ⟨_, s1, .inl ⟨rfl, xs, SqL.of hh⟩, ?_⟩
              have := t2 σ H env (Ps ++ out) _ r.er e1
              rw [hl] at this
              refine this H (Same.refl _) _ fun v H1 sm rv => ?_
              have r1 := r.same sm
              have hh1 : H1 p = some (.lst xs) := sm _ _ hh
              obtain ⟨b, zs, rfl, hb, rz, _⟩ := rv.list
              refine ⟨p, b, xs, zs, rfl, rfl, hh1, hb, by rw [rr.length, rz.length]; exact hz, qq _ _ Ps ((hide_mono sm _).trans (hide_write s2)) (r1.write hm he s1 s2 ⟨p, _, rfl, hp, upd_same, ?_, ?_⟩)⟩
              · rw [hide_upd_in hp]
                exact (rr.mono (hide_mono sm _)).append rz
              · rw [List.length_append]; exact hz
            · cases e
          | _ => cases e
        | _ => cases e
theorem okS_ins {i : Nat} {ia ie : IE} {n : Str} {st : Stmt} {y x : Expr} (h : mcall "insert" st = some (n, [y, x])) (hv : visB S i n = true) (hm : S.M.contains i = true) (hs' : noStar y = true) (hs : noStar x = true) (hy : OkE k defs K S ia y) (hx : OkE k defs K S ie x) (hl : lv S.M ie = false) : OkS k defs K S (.ins i ia ie) st := by
  obtain ⟨p0, p, q, p2, rfl, hline⟩ := mcall_ok h
  obtain ⟨t, t1, t2⟩ := hx
  obtain ⟨u, u1, u2⟩ := hy
  refine ⟨tDrop (tBM K "list" (fun x vs H Q => ∃ (l : Addr) (xs : List V) (i : Int) (y : V), x = .ref l ∧ vs = [.int i, y] ∧ H l = some (.lst xs) ∧ xs.length < sizeLine ∧ 0 ≤ i ∧ i < 2 ^ 63 ∧ Q .non (upd H l (.lst (xs.take i.toNat ++ [y] ++ xs.drop i.toNat)))) (tVar i) (tCons u (tCons t tNil))), fun X g => ?_, fun H0 out σ H env Ps fl r e Dn qq => ?_⟩
  · obtain ⟨a, b, c, d⟩ := g.gd.vis hv
    refine ps_expr ?_
    exact g.gd.hK ▸ pe_bm PySem.F.plainAttrs_list PySem.F.slot_list_insert PySem.F.type_list_insert mt_insert (pe_var a b c d) (pa_cons (u1 X g.gd) (pa_cons (t1 X g.gd) pa_nil (star1 hs)) (star1 hs')) rfl (few2 hs' hs) hline (star1 hs') (by rw [star1 hs]; rfl)
  · simp only [evalS] at e
    obtain ⟨m, e0, e⟩ := bind_split e
    obtain ⟨d, e1, e⟩ := bind_split e
    cases he : env[i]? with
    | none => rw [he] at e; cases e
    | some o =>
      rw [he] at e
      cases o with
      | none => cases e
      | some y =>
        cases y with
        | list ds =>
          cases m with
          | int m =>
            have e : (if decide (ds.length < sizeLine ∧ 0 ≤ m ∧ m < 2 ^ 62) = true then Res.ok (Fl.next (env.set i (some (.list (ds.take m.toNat ++ [d] ++ ds.drop m.toNat))))) else .bad) = .ok fl := e
            split at e
            · rename_i hz
              cases e
              have hz := of_decide_eq_true hz
              obtain ⟨p, s1, s2, pv⟩ := r.priv hm he
              obtain ⟨p', xs, ee, hp, hh, rr, zz⟩ := pv
              cases ee
              refine ⟨_, s1, .inl ⟨rfl, xs, SqL.of hh⟩, ?_⟩
              refine u2 σ H env (Ps ++ out) _ r.er e0 H (Same.refl _) _ fun vm H1 sm1 rm => ?_
              cases rm.int
              have := t2 σ H env (Ps ++ out) _ r.er e1
              rw [hl] at this
              refine this H1 sm1 _ fun v H2 sm2 rv => ?_
              have sm := sm1.trans sm2
              have r1 := r.same sm
              have hh1 : H2 p = some (.lst xs) := sm _ _ hh
              refine ⟨p, xs, m, v, rfl, rfl, hh1, by rw [rr.length]; exact hz.1, hz.2.1, by omega, qq _ _ Ps ((hide_mono sm _).trans (hide_write s2)) (r1.write hm he s1 s2 ⟨p, _, rfl, hp, upd_same, ?_, ?_⟩)⟩
              · rw [hide_upd_in hp]
                have rr2 := rr.mono (hide_mono sm (Ps ++ out))
                exact ((rr2.take _).append (.cons rv.clean .nil)).append (rr2.drop _)
              · simp only [List.length_append, List.length_take, List.length_drop, List.length_cons, List.length_nil]; omega
            · cases e
          | _ => cases e
        | _ => cases e
theorem okS_put {i : Nat} {ia ie : IE} {n : Str} {y x : Expr} {p0 p1 p2 : Pos} (hv : visB S i n = true) (hm : S.M.contains i = true) (hy : OkE k defs K S ia y) (hx : OkE k defs K S ie x) (hl : lv S.M ie = false) (hc : noComp x = true) : OkS k defs K S (.put i ia ie) (.Assign [.Subscript (.Name n p0) y p1] x p2) := by
  obtain ⟨t, t1, t2⟩ := hx
  obtain ⟨u, u1, u2⟩ := hy
  refine ⟨sDPut (tVar i) u t, fun X g => ?_, fun H0 out σ H env Ps fl r e Dn qq => ?_⟩
  · obtain ⟨a, b, c, d⟩ := g.gd.vis hv
    exact ps_dput (by have := g.gd.hu; omega) (pe_var a b c d) (u1 X g.gd) (t1 X g.gd) (swap_noComp hc)
  · simp only [evalS] at e
    obtain ⟨d, e1, e⟩ := bind_split e
    obtain ⟨m, e0, e⟩ := bind_split e
    cases he : env[i]? with
    | none => rw [he] at e; cases e
    | some o =>
      rw [he] at e
      cases o with
      | none => cases e
      | some y =>
        cases y with
        | dict kvs =>
          cases m with
          | str kk =>
            have e : (if (isKeyed kvs && decide (kvs.length < sizeLine)) = true then Res.ok (Fl.next (env.set i (some (.dict (putD kk d kvs))))) else .bad) = .ok fl := e
            split at e
            · rename_i hz
              cases e
              simp only [Bool.and_eq_true, decide_eq_true_eq] at hz
              obtain ⟨p, s1, s2, pv⟩ := r.priv hm he
              obtain ⟨p', ks, ee, hp, hh, rr, zz⟩ := pv
              cases ee
              have := t2 σ H env (Ps ++ out) _ r.er e1
              rw [hl] at this
              refine this H (Same.refl _) _ fun v H1 sm1 rv => ⟨_, s1, ?_⟩
              refine u2 σ H env (Ps ++ out) _ r.er e0 H1 sm1 _ fun vm H2 sm2 rm => ?_
              obtain ⟨rfl, z1, z2⟩ := rm.str
              have sm := sm1.trans sm2
              have r1 := r.same sm
              have hh1 : H2 p = some (.dK ks) := sm _ _ hh
              refine ⟨p, _, rfl, DPut.k (k := .inr kk) hh1 (by rw [rr.length]; exact hz.2), qq _ _ Ps ((hide_mono sm _).trans (hide_write s2)) (r1.write hm he s1 s2 ⟨p, _, rfl, hp, upd_same, ?_, ?_⟩)⟩
              · rw [hide_upd_in hp]
                exact (rr.mono (hide_mono sm _)).put z1 z2 (rv.clean.mono (hide_mono sm2 _))
              · have : (putD kk d kvs).length ≤ kvs.length + 1 := by
                  unfold putD
                  split
                  · simp
                  · simp
                omega
            · cases e
          | _ => cases e
        | _ => cases e
theorem okS_appPop {i j : Nat} {ie : IE} {n m : Str} {st : Stmt} {x : Expr} {p0 p q : Pos} (h : mcall "append" st = some (n, [.Call (.Attribute (.Name m p0) "pop" p) [x] [] q])) (hl : (p.endLine == q.line) = true) (vi : visB S i n = true) (vj : visB S j m = true) (mi : S.M.contains i = true) (mj : S.M.contains j = true) (hs : noStar x = true) (hx : OkE k defs K S ie x) : OkS k defs K S (.appPop i j ie) st := by
  obtain ⟨p1, p2, p3, p4, rfl, hline⟩ := mcall_ok h
  obtain ⟨t, t1, t2⟩ := hx
  refine ⟨tDrop (tBM K "list" rAppend (tVar i) (tCons (tBM K "list" rPopAt (tVar j) (tCons t tNil)) tNil)), fun X g => ?_, fun H0 out σ H env Ps fl r e Dn qq => ?_⟩
  · obtain ⟨a, b, c, d⟩ := g.gd.vis vi
    obtain ⟨a', b', c', d'⟩ := g.gd.vis vj
    refine ps_expr ?_
    have hp := pe_bm (apos := p) (cpos := q) PySem.F.plainAttrs_list PySem.F.slot_list_pop PySem.F.type_list_pop mt_popAt (pe_var (pos := p0) a' b' c' d') (pa_cons (t1 X g.gd) pa_nil (star1 hs)) rfl (few1 hs) hl (star1 hs) rfl
    exact g.gd.hK ▸ pe_bm PySem.F.plainAttrs_list PySem.F.slot_list_append PySem.F.type_list_append mt_append (pe_var a b c d) (pa_cons hp pa_nil rfl) rfl rfl hline rfl rfl
  · simp only [evalS] at e
    obtain ⟨d, e1, e⟩ := bind_split e
    cases hi : env[i]? with
    | none => rw [hi] at e; cases e
    | some o =>
      cases hj : env[j]? with
      | none => rw [hi, hj] at e; cases o with
        | none => cases e
        | some y => cases y <;> cases e
      | some o' =>
        rw [hi, hj] at e
        cases o with
        | none => cases e
        | some y =>
          cases o' with
          | none => cases y <;> cases e
          | some y' =>
            cases y with
            | list ds =>
              cases y' with
              | list es =>
                cases d with
                | int w =>
                  have e : (if decide (0 ≤ w ∧ w.toNat < es.length ∧ es.length < 2 ^ 62 ∧ ds.length < sizeLine ∧ i ≠ j) = true then (match es[w.toNat]? with | some d => Res.ok (Fl.next ((env.set j (some (.list (es.eraseIdx w.toNat)))).set i (some (.list (ds ++ [d]))))) | none => .bad) else .bad) = .ok fl := e
                  split at e
                  · rename_i hz
                    obtain ⟨z1, z2, z3, z4, z5⟩ := of_decide_eq_true hz
                    cases hd : es[w.toNat]? with
                    | none => rw [hd] at e; cases e
                    | some d =>
                      rw [hd] at e
                      cases e
                      obtain ⟨pi, s1, s2, pv⟩ := r.priv mi hi
                      obtain ⟨_, xs, ee, hpi, hh, rr, zz⟩ := pv
                      cases ee
                      obtain ⟨pj, s1', s2', pv'⟩ := r.priv mj hj
                      obtain ⟨_, ys, ee, hpj, hh', rr', zz'⟩ := pv'
                      cases ee
                      have nep : pi ≠ pj := fun z => by
                        subst z
                        exact r.er.inj i j pi _ _ mi mj z5 hi hj s1 s1'
                      refine ⟨_, s1, .inl ⟨rfl, xs, SqL.of hh⟩, ?_⟩
                      refine ⟨_, s1', .inl ⟨rfl, ys, SqL.of hh'⟩, ?_⟩
                      refine t2 σ H env (Ps ++ out) _ r.er e1 H (Same.refl _) _ fun vw H1 sm rw => ?_
                      cases rw.int
                      have r1 := r.same sm
                      have hh1 : H1 pi = some (.lst xs) := sm _ _ hh
                      have hh1' : H1 pj = some (.lst ys) := sm _ _ hh'
                      obtain ⟨y, hy, ry⟩ := rr'.getD hd
                      have yl : ys.length = es.length := rr'.length
                      have hsq : seqIndex? w ys.length = some w.toNat := by
                        unfold seqIndex?
                        rw [yl]
                        have h1 : ¬ w < 0 := by omega
                        have h2 : w < es.length := by omega
                        simp [h1, h2, z1]
                      refine ⟨pj, ys, w, w.toNat, y, rfl, rfl, hh1', by omega, by omega, hsq, hy, ?_⟩
                      have rj := r1.write (o := .lst (ys.eraseIdx w.toNat)) (d' := .list (es.eraseIdx w.toNat)) mj hj s1' s2' ⟨pj, _, rfl, hpj, upd_same, by
                        rw [hide_upd_in hpj]
                        exact (rr'.mono (hide_mono sm _)).erase _, by
                        have := List.length_eraseIdx_le es w.toNat
                        omega⟩
                      have hi' : (env.set j (some (PyData.list (es.eraseIdx w.toNat))))[i]? = some (some (.list ds)) := by rw [List.getElem?_set_ne (Ne.symm z5)]; exact hi
                      have hh2 : upd H1 pj (.lst (ys.eraseIdx w.toNat)) pi = some (.lst xs) := by rw [upd_ne nep]; exact hh1
                      refine ⟨pi, xs, y, rfl, rfl, hh2, by rw [rr.length]; exact z4, qq _ _ Ps (((hide_mono sm _).trans (hide_write s2')).trans (hide_write s2)) (rj.write mi hi' s1 s2 ⟨pi, _, rfl, hpi, upd_same, ?_, ?_⟩)⟩
                      · rw [hide_upd_in hpi, hide_upd_in hpj]
                        exact (rr.mono (hide_mono sm _)).append (.cons (ry.mono (hide_mono sm _)) .nil)
                      · rw [List.length_append]; simp; omega
                  · cases e
                | _ => cases e
              | _ => cases e
            | _ => cases y' <;> cases e
end
end Tq

/-! Tq, part 2: rows without those that stood ahead. -/
namespace Tq
open PySem L2 Res
section
variable {K : PySem.W.Frag} {H : Hp}
theorem fk_of {v : V} {d : D} {k : FK} (r : Rp K H v d) (h : fkD d = some k) : flatV v = true ∧ fkV v = k := by
  cases r with
  | non => cases h; exact ⟨rfl, rfl⟩
  | bl b => cases h; exact ⟨rfl, rfl⟩
  | int i => cases h; exact ⟨rfl, rfl⟩
  | str _ _ => cases h; exact ⟨rfl, rfl⟩
  | _ => cases h
theorem fks_of : ∀ {vs : List V} {ds : List D} {ks : List FK}, RpAll K H vs ds → fkDs ds = some ks → vs.all flatV = true ∧ vs.map fkV = ks
  | _, _, _, .nil, h => by cases h; exact ⟨rfl, rfl⟩
  | _, _, ks, .cons (v := v) (vs := vs) (d := d) (ds := ds) r t, h => by
    unfold fkDs at h
    cases h1 : fkD d with
    | none => rw [h1] at h; cases h
    | some k =>
      cases h2 : fkDs ds with
      | none => rw [h1, h2] at h; cases h
      | some ks' =>
        rw [h1, h2] at h
        cases h
        obtain ⟨a, b⟩ := fk_of r h1
        obtain ⟨c, e⟩ := fks_of t h2
        exact ⟨by rw [List.all_cons, a, c]; rfl, by rw [List.map_cons, b, e]⟩
theorem rowK_of {Ps : List Addr} {v : V} {d : D} {ks : List FK} (r : Rp K (hide H Ps) v d) (h : keyD d = some ks) : ∃ a, v = .ref a ∧ RowK K H a ks := by
  cases r with
  | tup ht rr z =>
    obtain ⟨a, b⟩ := fks_of rr h
    exact ⟨_, rfl, _, seqT (hide_le _ _) ht.sq, a, b⟩
  | _ => cases h
end
section
variable {k : Nat} {defs : Nat → Option FDef} {K : PySem.W.Frag} {S : Sx}
/-- all but one place stay -/
def SameX (p : Addr) (H H' : Hp) : Prop := ∀ a u, a ≠ p → H a = some u → H' a = some u
theorem SameX.hide {p : Addr} {H H' : Hp} (h : SameX p H H') {Ps : List Addr} (hp : p ∈ Ps) : Same (hide H Ps) (hide H' Ps) := fun a u e => by
  obtain ⟨h1, h2⟩ := hide_some e
  rw [hide_out h1]
  exact h a u (fun z => h1 (z ▸ hp)) h2
theorem once_ok {f g : Option (Option D)} {d : D} (h : onceD f g = .ok d) : ∃ ds rs, g = some (some (.list ds)) ∧ f = some (some (.dict [])) ∧ ds.length ≤ 1000 ∧ onceGo [] ds = some rs ∧ d = .list rs := by
  unfold onceD at h
  split at h
  · rename_i ds
    split at h
    · split at h
      · rename_i hl
        cases hg : onceGo [] ds with
        | none => rw [hg] at h; cases h
        | some rs =>
          rw [hg] at h
          cases h
          exact ⟨ds, rs, rfl, rfl, of_decide_eq_true hl, hg, rfl⟩
      · cases h
    · cases h
  · cases h
theorem once_step {seen : List (List FK)} {d : D} {ds rest : List D} (h : onceGo seen (d :: ds) = some rest) : ∃ ks, keyD d = some ks ∧ ((ks ∈ seen ∧ onceGo seen ds = some rest) ∨ (ks ∉ seen ∧ ∃ rest', onceGo (seen ++ [ks]) ds = some rest' ∧ rest = d :: rest')) := by
  unfold onceGo at h
  cases hk : keyD d with
  | none => rw [hk] at h; cases h
  | some ks =>
    rw [hk] at h
    refine ⟨ks, rfl, ?_⟩
    by_cases hm : hasK seen ks = true
    · simp only [hm, if_true] at h
      exact .inl ⟨hasK_iff.mp hm, h⟩
    · simp only [hm, if_false, Bool.false_eq_true] at h
      cases hg : onceGo (seen ++ [ks]) ds with
      | none => rw [hg] at h; cases h
      | some r =>
        rw [hg] at h
        injection h with h
        exact .inr ⟨fun z => hm (hasK_iff.mpr z), r, rfl, h.symm⟩
theorem RowK.but {K : PySem.W.Frag} {H H' : Hp} {p a : Addr} {ks : List FK} (h : RowK K H a ks) (s : SameX p H H') (hp : (∀ vs, H p ≠ some (.tup vs)) ∧ ∀ o vs, H p ≠ some (.frz o (.tup vs))) : RowK K H' a ks := by
  obtain ⟨vs, h1, h2, h3⟩ := h
  refine ⟨vs, ?_, h2, h3⟩
  rcases h1 with (h1 | ⟨o, h1⟩) | h1
  · exact .inl (.inl (s a _ (fun z => hp.1 vs (z ▸ h1)) h1))
  · exact .inl (.inr ⟨o, s a _ (fun z => hp.2 o vs (z ▸ h1)) h1⟩)
  · exact .inr h1
theorem RdAt.notTup {P : Program} {w : World} {K : PySem.W.Frag} {H : Hp} {d : Addr} {xs : List RE} (R : RdAt P w K H d xs) : (∀ vs, H d ≠ some (.tup vs)) ∧ ∀ o vs, H d ≠ some (.frz o (.tup vs)) := by
  rcases R.at_ with h | ⟨_, h⟩
  · refine ⟨fun vs z => ?_, fun o vs z => ?_⟩ <;> rw [h] at z <;> unfold rdO at z <;> cases z
  · refine ⟨fun vs z => ?_, fun o vs z => ?_⟩ <;> rw [h] at z <;> cases z
theorem RdAt.there {P : Program} {w : World} {K : PySem.W.Frag} {H : Hp} {d : Addr} {xs : List RE} (R : RdAt P w K H d xs) : H d ≠ none := by
  rcases R.at_ with h | ⟨_, h⟩ <;> rw [h] <;> exact fun z => nomatch z
theorem RdAt.same {P : Program} {w : World} {K : PySem.W.Frag} {H H' : Hp} {d : Addr} {xs : List RE} (R : RdAt P w K H d xs) (s : Same H H') : RdAt P w K H' d xs :=
  ⟨R.at_.imp (fun h => s _ _ h) fun h => ⟨h.1, s _ _ h.2⟩, fun x hx => (R.keys x hx).mono s, R.nd⟩
theorem RpAll.snoc {K : PySem.W.Frag} {H : Hp} : ∀ {vs : List V} {ds : List D} {v : V} {d : D}, RpAll K H vs ds → Rp K H v d → RpAll K H (vs ++ [v]) (ds ++ [d])
  | _, _, _, _, .nil, h => .cons h .nil
  | _, _, _, _, .cons r t, h => .cons r (RpAll.snoc t h)
theorem okSs_once {i j l : Nat} {tg it : Expr} {x1 x2 x3 : Str} {p1 pa p2 pc pb pe pf pl p3 pq pr : Pos} {jc : Nat} (hi : OkI k defs K S (.seq (.var i)) tg it) (ht : chkT S (.nm l) tg = true) (hset : noSet it = true) (v1 : visB S j x1 = true) (v2 : visB S l x2 = true) (v3 : visB S j x3 = true) (hj : S.M.contains j = true) (hlj : l ≠ j) (hline : (pa.endLine == pb.line) = true) (hg : glB S "list" = true) :
    OkSs k defs K S (.once2 i j l) [.For tg it [.Expr (.Call (.Attribute (.Name x1 p1) "setdefault" pa) [.Name x2 p2, .Constant (.bool true) jc pc] [] pb) pe] [] pf, .Return (some (.Call (.Name "list" pl) [.Name x3 p3] [] pq)) pr] := by
  obtain ⟨wi, w1, w2⟩ := hi
  refine ⟨fun D σ H => ∀ P w, tSeq (tFor wi (gName l) (tSeq (tDrop (tSetd P w K (tVar j) (tVar l) (tC (.bl true)))) tNext)) (tSeq (tRet (tCB (rListR P w K) (tCons (tVar j) tNil))) tNext) D σ H, fun X g => ?_, fun H0 out σ H env Ps fl r e Dn qq0 => ?_⟩
  · refine ⟨fun pins s σ H D I h => ?_⟩
    have hK := g.gd.hK
    subst hK
    obtain ⟨a1, b1, c1, d1⟩ := g.gd.vis v1
    obtain ⟨a2, b2, c2, d2⟩ := g.gd.vis v2
    obtain ⟨a3, b3, c3, d3⟩ := g.gd.vis v3
    have hset' : PE X (.Call (.Attribute (.Name x1 p1) "setdefault" pa) [.Name x2 p2, .Constant (.bool true) jc pc] [] pb) (tSetd X.prog X.w X.K (tVar j) (tVar l) (tC (.bl true))) := pe_setd g.gd.room (pe_var a1 b1 c1 d1) (pe_var a2 b2 c2 d2) pe_bl ⟨rfl, rfl, hline, rfl⟩
    have hlist : PE X (.Call (.Name "list" pl) [.Name x3 p3] [] pq) (tCB (rListR X.prog X.w X.K) (tCons (tVar j) tNil)) := pe_callTy (cr_listR g.gd.calm) (g.gd.gl hg) (g.gd.free _ (by decide +kernel)) boot_list' (pa_cons (pe_var a3 b3 c3 d3) pa_nil (star1 rfl)) (he := star1 rfl)
    exact (pss_cons (ps_for g.pas g.gd.calm (w1 X g.gd) (tg_pg g.gd ht) (pss_cons (ps_expr hset' (swap_noComp rfl)) pss_nil) (fun v => fold_plain hset v)) (pss_cons (ps_ret hlist) pss_nil)).run pins s σ H D I (h X.prog X.w)
  · intro P w
    simp only [evalSs] at e
    split at e
    rotate_left
    · cases e
    rename_i hlen
    have hlen := of_decide_eq_true hlen
    obtain ⟨d, e1, e⟩ := bind_split e
    cases e
    obtain ⟨ds, rs, gi, gj, hds, hgo, rfl⟩ := once_ok e1
    obtain ⟨p, sp, pPs⟩ := r.own j _ hj gj
    have hp0 : H p = some (.dK []) := by
      obtain ⟨v, z1, _, z3⟩ := r.er.get j _ gj
      obtain ⟨p', ks, y1, _, y3, y4, _⟩ := z3 hj
      rw [sp] at z1
      have z1 : V.ref p = v := by injection z1 with z1; injection z1
      rw [y1] at z1
      injection z1 with z1
      subst z1
      cases y4
      exact y3
    have pIn : p ∈ Ps ++ out := List.mem_append_left _ pPs
    have hev : evalIT (callF defs k) (.seq (.var i)) env = .ok ds := by
      simp only [evalIT, evalE, gi, slot_some, bind_ok]; rfl
    show tFor wi (gName l) _ _ σ H
    refine w2 σ H env (Ps ++ out) ds r.er hev H (Same.refl _) _ fun J H1 s1 itk => ?_
    obtain ⟨fit, G, Y, wk, stab, yl⟩ := itk
    have lσ : l < σ.length := by rw [r.er.len]; exact hlen
    have dom1 : ∀ q ∈ Ps ++ out, H1 q ≠ none := fun q hq z => by
      cases hh : H q with
      | none => exact r.er.dom q hq hh
      | some u => rw [s1 _ _ hh] at z; cases z
    refine for_it wk (fun n σi Hi => σi[j]? = some (some (.ref p)) ∧ σi.length = σ.length ∧ SameX p H1 Hi ∧ ∃ (xs : List RE) (rs' rest : List D), RdAt P w K Hi p xs ∧ (∀ x ∈ xs, x.2.2 = Value.bool true) ∧ xs.length ≤ n ∧ RpAll K (hide Hi (Ps ++ out)) (xs.map fun x => V.ref x.2.1) rs' ∧ onceGo (xs.map (·.1)) (ds.drop n) = some rest ∧ rs = rs' ++ rest) ?_ ?_ ?_ ?_
    · exact ⟨sp, rfl, fun a u _ h => h, [], [], rs, ⟨.inr ⟨rfl, s1 _ _ hp0⟩, fun x hx => by simp at hx, by simp⟩, fun x hx => by simp at hx, Nat.le_refl _, .nil, by simpa using hgo, rfl⟩
    · rintro n σi Hi hle ⟨_, _, sx, _⟩
      exact stab _ Hi (sx.hide pIn)
    · rintro n x σi Hi H' hlt ⟨hj', hl', sx, xs, rs', rest, R, hv, hx, ra, go, er⟩ y
      have domi : ∀ q ∈ Ps ++ out, Hi q ≠ none := fun q hq z => by
        by_cases eq : q = p
        · subst eq; exact R.there z
        · cases hh : H1 q with
          | none => exact dom1 q hq hh
          | some u => rw [sx q u eq hh] at z; cases z
      obtain ⟨s2, d, hd, rx⟩ := yl n (Ps ++ out) Hi x H' hlt (sx.hide pIn) domi y
      have hdrop : ds.drop n = d :: ds.drop (n + 1) := by
        have hlt' : n < ds.length := hlt
        rw [List.drop_eq_getElem_cons hlt']
        have : ds[n] = d := by
          rw [List.getElem?_eq_getElem hlt'] at hd
          exact Option.some.inj hd
        rw [this]
      rw [hdrop] at go
      obtain ⟨ks, hk, go⟩ := once_step go
      obtain ⟨a, rfl, rk⟩ := rowK_of rx hk
      have R' := R.same s2
      have sj : (σi.set l (some (V.ref a)))[j]? = some (some (.ref p)) := by rw [List.getElem?_set_ne hlj]; exact hj'
      have sl : (σi.set l (some (V.ref a)))[l]? = some (some (V.ref a)) := by rw [List.getElem?_set_self (by rw [hl']; exact lσ)]
      have ll : (σi.set l (some (V.ref a))).length = σ.length := by rw [List.length_set]; exact hl'
      have sx' : SameX p H1 H' := fun b u nb h => s2 _ _ (sx b u nb h)
      have ra' : RpAll K (hide H' (Ps ++ out)) (xs.map fun x => V.ref x.2.1) rs' := ra.mono (hide_mono s2 _)
      have hn1000 : xs.length ≤ 1000 := by
        have : n < ds.length := hlt
        omega
      refine ⟨.ref p, sj, p, xs, rfl, R', .ref a, sl, a, ks, xs, rfl, rfl, R', rk, hn1000, hv, fun hm => ?_, fun hm => ?_⟩
      · rcases go with ⟨_, go⟩ | ⟨hn, _⟩
        · exact ⟨sj, ll, sx', xs, rs', rest, R', hv, by omega, ra', go, er⟩
        · exact absurd hm hn
      · rcases go with ⟨hn, _⟩ | ⟨_, rest', go, erest⟩
        · exact absurd hn hm
        · have su : SameX p H' (upd H' p (rdO P w p (xs ++ [(ks, a, Value.bool true)]))) := fun b u nb h => by rw [upd_ne nb]; exact h
          refine ⟨sj, ll, fun b u nb h => su b u nb (sx' b u nb h), xs ++ [(ks, a, Value.bool true)], rs' ++ [d], rest', ⟨.inl upd_same, fun x hx' => ?_, ?_⟩, fun x hx' => ?_, by simp; omega, ?_, ?_, ?_⟩
          · rcases List.mem_append.mp hx' with hx' | hx'
            · exact (R'.keys x hx').but su R'.notTup
            · rw [List.mem_singleton] at hx'
              subst hx'
              exact rk.but su R'.notTup
          · rw [List.map_append, List.nodup_append]
            exact ⟨R'.nd, by simp, fun b hb c hc z => by simp at hc; subst z; rw [hc] at hb; exact hm hb⟩
          · rcases List.mem_append.mp hx' with hx' | hx'
            · exact hv x hx'
            · rw [List.mem_singleton] at hx'
              subst hx'; rfl
          · rw [List.map_append]
            exact RpAll.snoc (ra'.mono (su.hide pIn)) (rx.mono (su.hide pIn))
          · rw [List.map_append]; exact go
          · rw [er, erest]; simp
    · rintro σ' H2 ⟨hj', hl', sx, xs, rs', rest, R, hv, hx, ra, go, er⟩
      have go : onceGo (xs.map (·.1)) [] = some rest := by
        rw [List.drop_of_length_le (Nat.le_refl _)] at go
        exact go
      have : rest = [] := by
        unfold onceGo at go
        injection go with go
        exact go.symm
      subst this
      rw [List.append_nil] at er
      subst er
      have fr : ∀ b u, H0 b = some u → H2 b = some u := fun b u hb => sx b u (fun z => by rw [z, r.fr p pPs] at hb; cases hb) (s1 _ _ (r.ent _ _ hb))
      refine ⟨.ref p, hj', p, xs, rfl, R, by omega, fun q hq => ?_⟩
      refine qq0 (.ref q) _ (fun b u hb => ?_) (.lst (a := q) (xs := xs.map fun x => V.ref x.2.1) ?_ ?_ ?_)
      · rw [upd_ne fun z => by subst z; rw [fr b u hb] at hq; cases hq]
        exact fr b u hb
      · have : q ∉ out := fun z => by
          cases hh : H0 q with
          | none => exact r.odom q z hh
          | some u => rw [fr q u hh] at hq; cases hq
        rw [hide_out this, upd_same]
      · refine ra.mono fun b u hb => ?_
        obtain ⟨z1, z2⟩ := hide_some hb
        rw [hide_out fun z => z1 (List.mem_append_right _ z), upd_ne fun z => by subst z; rw [z2] at hq; cases hq]
        exact z2
      · have := ra.length
        rw [List.length_map] at this
        rw [sizeLine_eq]; omega
end
end Tq

/-! Tq, part 3: rows that are none of others. -/
namespace Tq
open PySem L2 Res
def allR (es : List (List FK × Addr)) : List RE := storedAllH [] (es.map fun e => (e.1, e.2, Value.bool true))
theorem stored_keys {xs : List RE} {k : List FK} {a : Addr} : (∀ k', k' ∈ (storedH xs k a (Value.bool true)).map (·.1) ↔ k' ∈ xs.map (·.1) ∨ k' = k) ∧ (∀ x ∈ storedH xs k a (Value.bool true), (∃ y ∈ xs, y.1 = x.1 ∧ y.2.1 = x.2.1) ∨ (x.1 = k ∧ x.2.1 = a)) ∧ ((xs.map (·.1)).Nodup → ((storedH xs k a (Value.bool true)).map (·.1)).Nodup) := by
  have pk : (xs.map (putAt k (Value.bool true))).map (·.1) = xs.map (·.1) := by
    rw [List.map_map]
    refine List.map_congr_left fun x _ => ?_
    show (putAt k (Value.bool true) x).1 = x.1
    unfold putAt
    split <;> rfl
  unfold storedH
  by_cases h : (atKey xs k).isSome = true
  · rw [if_pos h]
    obtain ⟨p, hp⟩ := Option.isSome_iff_exists.mp h
    obtain ⟨x, hx, e1, _⟩ := atKey_mem.1 p hp
    refine ⟨fun k' => ?_, fun y hy => ?_, fun nd => by rw [pk]; exact nd⟩
    · rw [pk]
      exact ⟨.inl, fun z => z.elim id fun z => by rw [z]; exact List.mem_map.mpr ⟨x, hx, e1⟩⟩
    · obtain ⟨z, hz, rfl⟩ := List.mem_map.mp hy
      refine .inl ⟨z, hz, ?_⟩
      unfold putAt
      split <;> exact ⟨rfl, rfl⟩
  · rw [if_neg h]
    have hn : atKey xs k = none := by
      cases hq : atKey xs k with
      | none => rfl
      | some p => rw [hq] at h; simp at h
    have hn' := atKey_mem.2 hn
    refine ⟨fun k' => by simp, fun y hy => ?_, fun nd => ?_⟩
    · rcases List.mem_append.mp hy with hy | hy
      · exact .inl ⟨y, hy, rfl, rfl⟩
      · rw [List.mem_singleton] at hy
        subst hy
        exact .inr ⟨rfl, rfl⟩
    · rw [List.map_append, List.nodup_append]
      exact ⟨nd, by simp, fun b hb c hc z => by simp at hc; subst z; rw [hc] at hb; exact hn' hb⟩
theorem allR_go : ∀ (es : List (List FK × Addr)) (xs : List RE), (∀ k', k' ∈ (storedAllH xs (es.map fun e => (e.1, e.2, Value.bool true))).map (·.1) ↔ k' ∈ xs.map (·.1) ∨ k' ∈ es.map (·.1)) ∧ (∀ x ∈ storedAllH xs (es.map fun e => (e.1, e.2, Value.bool true)), (∃ y ∈ xs, y.1 = x.1 ∧ y.2.1 = x.2.1) ∨ (x.1, x.2.1) ∈ es) ∧ ((xs.map (·.1)).Nodup → ((storedAllH xs (es.map fun e => (e.1, e.2, Value.bool true))).map (·.1)).Nodup)
  | [], xs => ⟨fun k' => by simp [storedAllH], fun x hx => .inl ⟨x, hx, rfl, rfl⟩, fun nd => nd⟩
  | e :: es, xs => by
    obtain ⟨a1, a2, a3⟩ := stored_keys (xs := xs) (k := e.1) (a := e.2)
    obtain ⟨b1, b2, b3⟩ := allR_go es (storedH xs e.1 e.2 (Value.bool true))
    have hs : storedAllH xs ((e :: es).map fun e => (e.1, e.2, Value.bool true)) = storedAllH (storedH xs e.1 e.2 (Value.bool true)) (es.map fun e => (e.1, e.2, Value.bool true)) := rfl
    rw [hs]
    refine ⟨fun k' => ?_, fun x hx => ?_, fun nd => b3 (a3 nd)⟩
    · rw [b1, a1, List.map_cons, List.mem_cons, or_assoc]
    · rcases b2 x hx with ⟨y, hy, e1, e2⟩ | hx
      · rcases a2 y hy with ⟨z, hz, e3, e4⟩ | ⟨e3, e4⟩
        · exact .inl ⟨z, hz, e3.trans e1, e4.trans e2⟩
        · refine .inr (List.mem_cons.mpr (.inl ?_))
          rw [← e1, ← e2, e3, e4]
      · exact .inr (List.mem_cons_of_mem _ hx)
theorem allR_ok (es : List (List FK × Addr)) : (∀ k, k ∈ (allR es).map (·.1) ↔ k ∈ es.map (·.1)) ∧ (∀ x ∈ allR es, (x.1, x.2.1) ∈ es) ∧ ((allR es).map (·.1)).Nodup := by
  obtain ⟨h1, h2, h3⟩ := allR_go es []
  refine ⟨fun k => (h1 k).trans ⟨fun z => z.resolve_left (by simp), .inr⟩, fun x hx => (h2 x hx).resolve_left fun ⟨y, hy, _⟩ => by simp at hy, h3 (by simp)⟩
def rDictR (P : Program) (w : World) (K : PySem.W.Frag) : List V → Hp → VK → Prop := fun vs H Q => ∃ (l : Addr) (ps : List Addr) (es : List (List FK × Addr)), vs = [.ref l] ∧ SqL K H l (ps.map V.ref) ∧ Paired (fun p e => SqT K H p [V.ref e.2, V.bl true] ∧ RowK K H e.2 e.1) ps es ∧ ps.length ≤ 1000 ∧ ∀ d, H d = none → Q (.ref d) (upd H d (rdO P w d (allR es)))
theorem paired_get {α β : Type} {F : α → β → Prop} : ∀ {l : List α} {m : List β} {j : Nat} {y : β}, Paired F l m → m[j]? = some y → ∃ x, l[j]? = some x ∧ F x y
  | _, _, _, _, .nil, h => by simp at h
  | _, _, 0, _, .cons r _, h => by simp at h; subst h; exact ⟨_, rfl, r⟩
  | _, _, j + 1, _, .cons _ t, h => paired_get (j := j) t (by simpa using h)
theorem cr_dictR {X : Cx} {k : Nat} (room : Room k X.A) (hc : X.calm = true) : CallR X (.type "dict") (rDictR X.prog X.w X.K) := by
  intro pins s σ H vs us Q I r h
  obtain ⟨l, ps, es, rfl, sq, pr, hl, q⟩ := h
  cases r with
  | cons r1 r2 =>
    cases r1
    cases r2
    obtain ⟨its, rv, pl, hz⟩ := I.list sq
    have ei := refs_at rv
    subst ei
    have le : ps.length = es.length := pr.length
    have hrow : ∀ e ∈ es, RowK X.K H e.2 e.1 := fun e he => by
      obtain ⟨j, hj⟩ := List.mem_iff_getElem?.mp he
      obtain ⟨p, _, h2⟩ := paired_get pr hj
      exact h2.2
    refine call_dict_pairsH (knd := rowKind X.prog X.w) (ps := es.map fun e => (e.1, e.2, Value.bool true)) (PairArg.list l (ps.map Value.ref).toArray (fun j => (ps[j]?).getD 0) (es.map fun e => (Value.ref e.2, Value.bool true))) (I.ok.hd hc) (by have := room.un; show _ + 1 + 1 < _; omega) ⟨pl, by simp [le], fun j kk v e => ?_⟩ ⟨by simp, fun i key v e => ?_⟩ (fun h' hk x hx => ?_) (by rw [List.length_map, sizeLine_eq]; omega) fun h' tk hd' kp => ?_
    · rw [List.getElem?_map] at e
      cases he : es[j]? with
      | none => rw [he] at e; cases e
      | some e0 =>
        rw [he] at e
        injection e with e
        injection e with e1 e2
        obtain ⟨p, h1, h2, _⟩ := paired_get pr he
        refine ⟨by simp [h1], .inl ?_⟩
        show s.heap.IsTuple ((ps[j]?).getD 0) #[kk, v]
        rw [h1, ← e1, ← e2]
        obtain ⟨its', rv', pl', _⟩ := I.tuple h2
        cases rv' with
        | cons a1 a2 =>
          cases a1
          cases a2 with
          | cons b1 b2 =>
            cases b1
            cases b2
            exact pl'
    · have e : (es.map fun e => (Value.ref e.2, Value.bool true))[i]? = some (key, v) := e
      rw [List.getElem?_map] at e
      cases he : es[i]? with
      | none => rw [he] at e; cases e
      | some e0 =>
        rw [he] at e
        injection e with e
        injection e with e1 e2
        exact ⟨e0.1, e0.2, by rw [List.getElem?_map, he, ← e2]; rfl, e1.symm⟩
    · obtain ⟨e0, he, rfl⟩ := List.mem_map.mp hx
      obtain ⟨o, items, n, z1, z2, z3, z4⟩ := row_is I (hrow e0 he)
      exact ⟨o, items, n, hk _ o (Nat.ne_of_lt (Heap.lt_size z1)) (by simp) z1, z2, z3, z4⟩
    · have hm : (s.heap.objs.size == sysModules) = false := beq_eq_false_iff_ne.mpr (Nat.ne_of_gt I.big)
      obtain ⟨o, es', ep, h1, h2, h3, h4, _, _⟩ := hd'
      refine ⟨.ref s.heap.objs.size, _, I.laid (t' := tk) (fun b o e => kp b o (fun z => nomatch z) e) (Nat.le_refl _) ?_, rfl, q _ I.fresh⟩
      unfold rdO
      unfold ObjOk
      refine ⟨⟨hm, o, es', ep, h1, h2, h3, h4⟩, ⟨o, h1⟩, fun g1 g2 hq same => ?_⟩
      obtain ⟨lw, o, es', ep, h1, h2, h3, h4⟩ := hq
      exact ⟨lw, o, es', ep, same o h1, h2, h3, h4⟩
def rNotinR (P : Program) (w : World) (K : PySem.W.Frag) : R2 := fun x y H Q => ∃ a d ks xs, x = .ref a ∧ y = .ref d ∧ RdAt P w K H d xs ∧ RowK K H a ks ∧ Q (.bl (!hasK (xs.map (·.1)) ks)) H
theorem op_notinR {X : Cx} {k : Nat} (room : Room k X.A) : OpR X (compareOp .NotIn) (rNotinR X.prog X.w X.K) := by
  intro pins s σ H x y v u Q I rx ry h
  obtain ⟨a, d, ks, xs, rfl, rfl, R, rk, q⟩ := h
  cases rx
  cases ry
  have e : (atKey xs ks).isSome = hasK (xs.map (·.1)) ks := by
    rw [Bool.eq_iff_iff, hasK_iff]
    constructor
    · intro h
      obtain ⟨p, hp⟩ := Option.isSome_iff_exists.mp h
      obtain ⟨x, hx, e1, _⟩ := atKey_mem.1 p hp
      exact List.mem_map.mpr ⟨x, hx, e1⟩
    · intro h
      cases hq : atKey xs ks with
      | none => exact absurd h (atKey_mem.2 hq)
      | some p => rfl
  refine PyProof.Rows.wpAny_notIn_heap (knd := rowKind X.prog X.w) (k := ks) (xs := xs) (by have := room.un; show _ + 1 < _; omega) (row_is I rk) (rd_low I R) (rd_dict I R) ⟨.bl (!hasK (xs.map (·.1)) ks), H, I.tok _, ?_, q⟩
  rw [e]; rfl
/-! ### a comprehension whose test sees what the state holds -/
section
variable {K : PySem.W.Frag} {M : List Nat}
theorem evCompG {t : Tg} {wi : TI} {tt : TT} {te : TE} {σ : St} {H : Hp} {env : En} {Ps : List Addr} {ds r : List D} {f : D → Res (Option D)} {vs : List Nat} (hvs : vs = t.slots)
    (re : EnvR K M H Ps σ env) (hi : EvI K wi σ H Ps ds) (ht : TgOk K M t (tgR K t)) (hr : eachD f ds = .ok r)
    (hf : ∀ d o, f d = .ok o → ∃ env', t.put d env = .ok env' ∧ ∀ σ' H' Ps', EnvR K M H' Ps' σ' env' → Same H H' → Out t.slots σ' (wipe σ t.slots) → ∃ b, EvB tt σ' H' b ∧ (b = true → ∃ y, o = some y ∧ EvD K te σ' H' Ps' false y) ∧ (b = false → o = none)) :
    EvF K (tLc wi (tgR K t) tt te vs) σ H Ps (.list r) := by
  subst hvs
  intro H0 s0 Q q
  refine hi H0 s0 _ fun J H1 s1 it D hD => ?_
  obtain ⟨z, G, Y, w, stab, yl⟩ := it
  have re1 : EnvR K M H1 Ps σ env := re.same (s0.trans s1)
  have dom1 := re1.dom
  have nD : D ∉ Ps := not_hid dom1 hD
  have kp : ∀ Hi : Hp, Same H1 Hi → (∃ o, Hi D = some o) → Keep Ps H1 (D :: Ps) Hi := fun Hi s ⟨o, ho⟩ => {
    view := fun a u h => by
      obtain ⟨h1, h2⟩ := hide_some h
      have ne : a ≠ D := ne_of_none h2 hD
      rw [hide_out (by simp [ne, h1])]
      exact s _ _ h2
    priv := fun p hp => ⟨List.mem_cons_of_mem _ hp, ((Keep.same dom1 s).priv p hp).2⟩
    dom := fun a ha e => by
      rcases List.mem_cons.mp ha with rfl | ha
      · rw [ho] at e; cases e
      · exact dom1 a ha (s.free e) }
  refine lc_it w (fun i Hi => Same H1 Hi ∧ ∃ acc ri, Hi D = some (.lst acc) ∧ eachD f (ds.take i) = .ok ri ∧ RpAll K (hide Hi (D :: Ps)) acc ri ∧ acc.length ≤ i) ?_ ?_ ?_ ?_
  · exact ⟨same_upd hD, [], [], upd_same, rfl, .nil, Nat.le_refl _⟩
  · rintro i Hi hle ⟨s, acc, ri, ha, _⟩
    exact stab (D :: Ps) Hi (kp Hi s ⟨_, ha⟩).view
  · rintro i x Hi H' hlt ⟨s, acc, ri, ha, he, ra, hl⟩ y
    have k := kp Hi s ⟨_, ha⟩
    obtain ⟨s2, d, hd, rx⟩ := yl i (D :: Ps) Hi x H' hlt k.view k.dom y
    obtain ⟨o, ho⟩ := eachD_get hr hd
    obtain ⟨env', hput, rest⟩ := hf d o ho
    have k' := kp H' (s.trans s2) ⟨_, s2 _ _ ha⟩
    have rw' : EnvR K M H' (D :: Ps) (wipe σ t.slots) (wipeE env t.slots) := (re1.keep k').wipe _
    refine ht x (wipe σ t.slots) H' (D :: Ps) _ env' d _ rw' rx (put_wipe hput) fun σ2 ou r2 => ⟨by rw [wipe_same ou, wipe_wipe], ?_⟩
    obtain ⟨b, hb, h1, h2⟩ := rest σ2 H' (D :: Ps) r2 ((s0.trans s1).trans (s.trans s2)) ou
    have htake : ds.take (i + 1) = ds.take i ++ [d] := by
      rw [List.take_add_one, hd]; rfl
    refine hb H' (Same.refl _) _ fun H3 s3 => ?_
    cases b with
    | true =>
      obtain ⟨yv, rfl, hy⟩ := h1 rfl
      refine iteT (hy H3 s3 _ fun u H4 s4 ru => ?_)
      have hD4 : H4 D = some (.lst acc) := s4 _ _ (s3 _ _ (s2 _ _ ha))
      refine ⟨acc, hD4, by omega, ?_, acc ++ [u], ri ++ [yv], upd_same, ?_, ?_, ?_⟩
      · intro a oo h
        rw [upd_ne (ne_of_none h hD)]
        exact s4 _ _ (s3 _ _ (s2 _ _ (s _ _ h)))
      · rw [htake]; exact eachD_snoc ho he
      · rw [hide_upd_in (by simp)]
        exact (ra.mono (hide_mono (s2.trans (s3.trans s4)) _)).append (.cons ru.clean .nil)
      · rw [List.length_append]; simp; omega
    | false =>
      refine iteF ⟨s.trans (s2.trans s3), acc, ri, s3 _ _ (s2 _ _ ha), ?_, ra.mono (hide_mono (s2.trans s3) _), by omega⟩
      rw [htake]
      have := eachD_snoc (h2 rfl ▸ ho) he
      simpa using this
  · rintro Hn ⟨s, acc, ri, ha, he, ra, hl⟩
    rw [List.take_length, hr] at he
    cases he
    have hD0 : H0 D = none := s1.free hD
    refine q _ _ (s1.trans s) ⟨D, acc, rfl, hD0, ha, ra, ?_⟩
    have := ra.length
    omega
end
/-! ### rows that are none of others -/
theorem minus_ok {f g : Option (Option D)} {d : D} (h : minusD f g = .ok d) : ∃ ds es ks rs, f = some (some (.list ds)) ∧ g = some (some (.list es)) ∧ ds.length ≤ 1000 ∧ es.length ≤ 1000 ∧ keysR es = some ks ∧ eachD (minusGo ks) ds = .ok rs ∧ d = .list rs := by
  unfold minusD at h
  split at h
  · rename_i ds es
    split at h
    · rename_i hl
      have hl := of_decide_eq_true hl
      cases hk : keysR es with
      | none => rw [hk] at h; cases h
      | some ks =>
        rw [hk] at h
        obtain ⟨rs, e1, e2⟩ := bind_split h
        cases e2
        exact ⟨ds, es, ks, rs, rfl, rfl, hl.1, hl.2, hk, e1, rfl⟩
    · cases h
  · cases h
theorem pairs_rows {K : PySem.W.Frag} {H : Hp} {Ps : List Addr} : ∀ {xs : List V} {es : List D} {ks : List (List FK)}, RpAll K (hide H Ps) xs (es.map fun d => .tuple [d, .bool true]) → keysR es = some ks → ∃ (ps : List Addr) (ee : List (List FK × Addr)), xs = ps.map V.ref ∧ Paired (fun p e => SqT K H p [V.ref e.2, V.bl true] ∧ RowK K H e.2 e.1) ps ee ∧ ps.length = es.length ∧ ee.map (·.1) = ks
  | _, [], ks, .nil, h => by
    cases h
    exact ⟨[], [], rfl, .nil, rfl, rfl⟩
  | _, d :: es, ks, .cons r t, h => by
    unfold keysR at h
    cases h1 : keyD d with
    | none => rw [h1] at h; cases h
    | some k =>
      cases h2 : keysR es with
      | none => rw [h1, h2] at h; cases h
      | some ks' =>
        rw [h1, h2] at h
        cases h
        obtain ⟨ps, ee, e1, e2, e3, e4⟩ := pairs_rows t h2
        cases r with
        | tup ht rr z =>
          cases rr with
          | cons ra rr =>
            cases rr with
            | cons rb rr =>
              cases rr
              cases rb
              obtain ⟨a, rfl, rk⟩ := rowK_of ra h1
              exact ⟨_ :: ps, (k, a) :: ee, by rw [e1]; rfl, .cons ⟨seqT (hide_le _ _) ht.sq, rk⟩ e2, by simp [e3], by simp [e4]⟩
theorem boot_dict' : bootBuiltins "dict" = some (.type "dict") := by decide +kernel
theorem EnvR.unset {K : PySem.W.Frag} {M : List Nat} {H : Hp} {Ps : List Addr} {σ : St} {env : En} (r : EnvR K M H Ps σ env) (i : Nat) (v : V) : EnvR K M H Ps (σ.set i (some v)) (env.set i none) where
  get := fun j d e => by
    have ne : i ≠ j := fun z => by
      subst z
      rw [List.getElem?_set] at e
      split at e
      · split at e
        · cases e
        · cases e
      · exact absurd rfl ‹_›
    rw [List.getElem?_set_ne ne] at e ⊢
    exact r.get j d e
  inj := fun a b p d e ma mb nab ea eb sa sb => by
    have na : i ≠ a := fun z => by
      subst z
      rw [List.getElem?_set] at ea
      split at ea
      · split at ea
        · cases ea
        · cases ea
      · exact absurd rfl ‹_›
    have nb : i ≠ b := fun z => by
      subst z
      rw [List.getElem?_set] at eb
      split at eb
      · split at eb
        · cases eb
        · cases eb
      · exact absurd rfl ‹_›
    rw [List.getElem?_set_ne na] at ea sa
    rw [List.getElem?_set_ne nb] at eb sb
    exact r.inj a b p d e ma mb nab ea eb sa sb
  dom := r.dom
  len := by rw [List.length_set, List.length_set]; exact r.len
section
variable {k : Nat} {defs : Nat → Option FDef} {K : PySem.W.Frag} {S : Sx}
theorem okSs_minus {r o th v : Nat} {x7 xe xr xt : Str} {p7 pn pc pa pe p1 p2 pm pl pr : Pos} {lc tg it : Expr} {scope : Scope}
    (h1 : chkT S (.nm th) (.Name x7 p7) = true) (hg : glB S "dict" = true) (hns : noStar lc = true) (hlc : OkE k defs K S (.comp (.nm v) (.seq (.var o)) (.tup (.cons (.var v) (.cons (.bl true) .nil)))) lc)
    (hi : OkI k defs K S (.seq (.var r)) tg it) (hset : noSet it = true) (hb : blkC S.N S.sc scope (ownOf S (.nm v)) = true) (ht : chkT (blkS S scope) (.nm v) tg = true) (ve : visB (blkS S scope) v xe = true) (vr : visB (blkS S scope) v xr = true) (vt : visB (blkS S scope) th xt = true) (htv : th ≠ v) (hrt : r ≠ th) :
    OkSs k defs K S (.minus2 r o th v) [.Assign [.Name x7 p7] (.Call (.Name "dict" pn) [lc] [] pc) pa, .Return (some (.ListComp (.Name xe pe) [⟨tg, it, [.Compare (.Name xr p1) [.NotIn] [.Name xt p2] pm], 0⟩] scope pl)) pr] := by
  obtain ⟨tl, l1, l2⟩ := hlc
  obtain ⟨wi, w1, w2⟩ := hi
  refine ⟨fun D σ H => ∀ P w, tSeq (tAsg (tCB (rDictR P w K) (tCons tl tNil)) (gName th)) (tSeq (tRet (tLc wi (gName v) (tTest (tOp (rNotinR P w K) (tVar v) (tVar th))) (tVar v) ((ownOf S (.nm v)).map (·.2)))) tNext) D σ H, fun X g => ?_, fun H0 out σ H env Ps fl rr e Dn qq0 => ?_⟩
  · refine ⟨fun pins s σ H D I h => ?_⟩
    have hK := g.gd.hK
    subst hK
    have hdict : PE X (.Call (.Name "dict" pn) [lc] [] pc) (tCB (rDictR X.prog X.w X.K) (tCons tl tNil)) := pe_callTy (cr_dictR g.gd.room g.gd.calm) (g.gd.gl hg) (g.gd.free _ (by decide +kernel)) boot_dict' (pa_cons (l1 X g.gd) pa_nil (star1 hns)) (he := star1 hns)
    have hcomp : PE X (.ListComp (.Name xe pe) [⟨tg, it, [.Compare (.Name xr p1) [.NotIn] [.Name xt p2] pm], 0⟩] scope pl) (tLc wi (gName v) (tTest (tOp (rNotinR X.prog X.w X.K) (tVar v) (tVar th))) (tVar v) ((ownOf S (.nm v)).map (·.2))) := by
      refine pe_lc g.gd.calm (by rw [g.gd.N]; exact g.gd.nd) (w1 X g.gd) (by rw [g.gd.N, g.gd.sc]; exact blkOk_by hb) (fun s H C cl fp => tg_pg (g.gd.blk s H scope C cl fp) ht) (fun s H C cl fp => pts_one ?_) (fun s H C cl fp => ?_) (fun v => fold_plain hset v)
      · have gb := g.gd.blk s H scope C cl fp
        obtain ⟨a1, b1, c1, d1⟩ := gb.vis vr
        obtain ⟨a2, b2, c2, d2⟩ := gb.vis vt
        exact pt_cmpR (op_notinR gb.room) (pe_var a1 b1 c1 d1) (pe_var a2 b2 c2 d2) rfl
      · have gb := g.gd.blk s H scope C cl fp
        obtain ⟨a1, b1, c1, d1⟩ := gb.vis ve
        exact pe_var a1 b1 c1 d1
    exact (pss_cons (ps_asg hdict (tg_pg g.gd h1) (show swapsWith (.Call (.Name "dict" pn) [lc] [] pc) (some (.Name x7 p7)) pa.line X.env = pure false from swap_noComp rfl) stores_name rfl) (pss_cons (ps_ret hcomp) pss_nil)).run pins s σ H D I (h X.prog X.w)
  · intro P w
    simp only [evalSs] at e
    split at e
    rotate_left
    · cases e
    rename_i hlen
    obtain ⟨hth, hv⟩ := of_decide_eq_true hlen
    obtain ⟨d, e1, e⟩ := bind_split e
    cases e
    obtain ⟨ds, es, ks, rs, gr, go, hds, hes, hks, hrs, rfl⟩ := minus_ok e1
    have er := rr.er
    have hev : evalE (callF defs k) (.comp (.nm v) (.seq (.var o)) (.tup (.cons (.var v) (.cons (.bl true) .nil)))) env = .ok (.list (es.map fun d => .tuple [d, .bool true])) := by
      have h0 : evalIT (callF defs k) (.seq (.var o)) env = .ok es := by simp only [evalIT, evalE, go, slot_some, bind_ok]; rfl
      let F : D → Res (Option D) := fun d => ((Tg.nm v).put d env).bind fun e => (evalE (callF defs k) (.tup (.cons (.var v) (.cons (.bl true) .nil))) e).bind fun x => Res.ok (some x)
      have hF : ∀ d, F d = .ok (some (.tuple [d, .bool true])) := fun d => by
        have : evalE (callF defs k) (.tup (.cons (.var v) (.cons (.bl true) .nil))) (env.set v (some d)) = .ok (.tuple [d, .bool true]) := by
          simp only [evalE, evalEs, List.getElem?_set_self hv, slot_some, bind_ok]
        show (Res.ok (env.set v (some d))).bind (fun e => (evalE (callF defs k) (.tup (.cons (.var v) (.cons (.bl true) .nil))) e).bind fun x => Res.ok (some x)) = _
        rw [bind_ok, this]; rfl
      have h9 : ∀ l : List D, eachD F l = .ok (l.map fun d => .tuple [d, .bool true]) := fun l => by
        induction l with
        | nil => rfl
        | cons d l ih => simp only [eachD, hF, bind_ok, ih, List.map_cons]
      rw [evalE, h0]
      show ((eachD F es).tame).bind (fun r => Res.ok (PyData.list r)) = _
      rw [h9]; rfl
    show tCB (rDictR P w K) (tCons tl tNil) σ H _
    refine l2 σ H env (Ps ++ out) _ er hev H (Same.refl _) _ fun v1 H1 s1 rv => ?_
    have rv := rv.clean
    cases rv with
    | lst hl ra hz =>
      rename_i l xs
      obtain ⟨ps, ee, rfl, pd, hpl, hek⟩ := pairs_rows ra hks
      obtain ⟨ak, ar, an⟩ := allR_ok ee
      refine ⟨l, ps, ee, rfl, SqL.of (hide_le _ _ _ _ hl), pd, by omega, fun dd hdd => ?_⟩
      have s2 : Same H1 (upd H1 dd (rdO P w dd (allR ee))) := same_upd hdd
      have er2 : EnvR K S.M (upd H1 dd (rdO P w dd (allR ee))) (Ps ++ out) (σ.set th (some (V.ref dd))) (env.set th none) := (er.same (s1.trans s2)).unset th _
      have R2 : RdAt P w K (upd H1 dd (rdO P w dd (allR ee))) dd (allR ee) := by
        refine ⟨.inl upd_same, fun x hx => ?_, an⟩
        have hm := ar x hx
        obtain ⟨j, hj⟩ := List.mem_iff_getElem?.mp hm
        obtain ⟨p, _, h2⟩ := paired_get pd hj
        exact h2.2.mono s2
      have hevr : evalIT (callF defs k) (.seq (.var r)) (env.set th none) = .ok ds := by
        have : (env.set th none)[r]? = some (some (.list ds)) := by rw [List.getElem?_set_ne (Ne.symm hrt)]; exact gr
        simp only [evalIT, evalE, this, slot_some, bind_ok]; rfl
      have hi2 := w2 _ _ _ _ ds er2 hevr
      have key : EvF K (tLc wi (gName v) (tTest (tOp (rNotinR P w K) (tVar v) (tVar th))) (tVar v) ((ownOf S (.nm v)).map (·.2))) (σ.set th (some (V.ref dd))) (upd H1 dd (rdO P w dd (allR ee))) (Ps ++ out) (.list rs) := by
        refine evCompG (t := .nm v) own_snd er2 hi2 (tg_ok (S := blkS S scope) ht) hrs fun d o ho => ⟨(env.set th none).set v (some d), rfl, fun σ' H' Ps' r' sm ou => ?_⟩
        unfold minusGo at ho
        cases hkd : keyD d with
        | none => rw [hkd] at ho; cases ho
        | some kk =>
          rw [hkd] at ho
          have ho : (if hasK ks kk then none else some d) = o := by injection ho
          have gv : ((env.set th none).set v (some d))[v]? = some (some d) := List.getElem?_set_self (by rw [List.length_set]; exact hv)
          obtain ⟨vv, z1, z2, _⟩ := r'.get v d gv
          have hnm : S.M.contains v = false := slots_out ht v (by simp [Tg.slots])
          have z2 : Rp K (hide H' Ps') vv d := by
            rw [hnm] at z2
            exact z2.clean
          obtain ⟨a, rfl, rk⟩ := rowK_of z2 hkd
          have wp1 : (wipe (σ.set th (some (V.ref dd))) (Tg.nm v).slots)[th]? = (σ.set th (some (V.ref dd)))[th]? := by
            show (wipe (σ.set th (some (V.ref dd))) [v])[th]? = _
            unfold wipe
            unfold wipe
            exact List.getElem?_set_ne (Ne.symm htv)
          have sth : σ'[th]? = some (some (V.ref dd)) := by
            rw [ou.2 th (by simp [Tg.slots, htv]), wp1, List.getElem?_set_self (by rw [er.len]; exact hth)]
          refine ⟨!hasK ks kk, fun G0 sg Q hq => ?_, fun hb => ?_, fun hb => ?_⟩
          · refine ⟨V.ref a, z1, V.ref dd, sth, a, dd, kk, allR ee, rfl, rfl, (R2.same (sm.trans sg)), rk.mono sg, _, rfl, ?_⟩
            have : hasK ((allR ee).map (·.1)) kk = hasK ks kk := by
              rw [Bool.eq_iff_iff, hasK_iff, hasK_iff, ak, hek]
            rw [this]
            exact hq G0 (Same.refl _)
          · have : hasK ks kk = false := by simpa using hb
            rw [this] at ho
            exact ⟨d, ho.symm, fun G0 sg Q hq => ⟨V.ref a, z1, hq _ G0 (Same.refl _) (.of (z2.mono (hide_mono sg _)))⟩⟩
          · have : hasK ks kk = true := by simpa using hb
            rw [this] at ho
            exact ho.symm
      show tLc wi (gName v) (tTest (tOp (rNotinR P w K) (tVar v) (tVar th))) (tVar v) ((ownOf S (.nm v)).map (·.2)) (σ.set th (some (V.ref dd))) (upd H1 dd (rdO P w dd (allR ee))) Dn.rt
      refine (key.ev er2.dom) _ (Same.refl _) _ fun u H3 s3 ru => ?_
      refine qq0 u H3 (rr.ent.trans ((s1.trans s2).trans s3)) (ru.clean.mono fun b uu hb => ?_)
      obtain ⟨y1, y2⟩ := hide_some hb
      rw [hide_out fun z => y1 (List.mem_append_right _ z)]
      exact y2
end
end Tq

/-! Tq, part M: blocks, defs, the law. -/
namespace Tq
open PySem L2 Res
section
variable {k : Nat} {defs : Nat → Option FDef} {K : PySem.W.Frag} {S : Sx}
theorem lc_comp {i : Nat} {t : Tg} {it : IT} {elt : IE} {x tg ie : Expr} {scope : Scope} {y : Str} {py p sp : Pos} (hi : OkI k defs K S it tg ie) (hx : OkE k defs K (blkS S scope) elt x) (hset : noSet ie = true) (hb : blkC S.N S.sc scope (ownOf S t) = true) (ht : chkT (blkS S scope) t tg = true) (hl : lv S.M elt = false)
    (hy : S.N[i]? = some y) (yl : S.sc.names.lookup y = some .local) (ln : (py.line == p.line) = true) (na : (scope.names.any fun (n, k) => n == y && (k == .local || k == .cell)) = false) :
    ∃ te, (∀ X, GdS S k defs K X → PS X (.Assign [.Name y py] (.ListComp x [⟨tg, ie, [], 0⟩] scope p) sp) (tAsg te (gName i))) ∧ ∀ σ H env Ps d, EnvR K S.M H Ps σ env → evalE (callF defs k) (.comp t it elt) env = .ok d → EvF K te σ H Ps d := by
  obtain ⟨wi, i1, i2⟩ := id hi
  obtain ⟨te, x1, x2⟩ := id hx
  refine ⟨tLc wi (tgR K t) tYes te ((ownOf S t).map (·.2)), fun X g => ?_, fun σ H env Ps d r e => ?_⟩
  · have yl' : X.env.scope.names.lookup y = some .local := by rw [g.gd.sc]; exact yl
    refine ps_setLc g.gd.calm (by rw [g.gd.N]; exact g.gd.nd) (by rw [g.gd.N]; exact hy) yl' (sw_true (by rw [g.gd.sc]; exact g.kind) yl' ln na) (i1 X g.gd) (by rw [g.gd.N, g.gd.sc]; exact blkOk_by hb) (fun s H C cl fp => ?_) (fun s H C cl fp => pts_nil) (fun s H C cl fp => x1 _ (g.gd.blk s H scope C cl fp)) (fun v => fold_plain hset v)
    exact tg_pg (g.gd.blk s H scope C cl fp) ht
  · simp only [evalE] at e
    obtain ⟨ds, e1, e⟩ := bind_split e
    obtain ⟨rr, e2, e⟩ := bind_split e
    cases e
    refine evCompF own_snd r (i2 σ H env Ps ds r e1) (tg_ok (S := blkS S scope) ht) (tame_split e2) fun d o ho => ?_
    obtain ⟨env', h1, h2⟩ := bind_split ho
    obtain ⟨y, h3, h4⟩ := bind_split h2
    cases h4
    refine ⟨env', h1, fun σ' H' Ps' r' => ⟨true, fun H0 s0 Q q => q H0 (Same.refl _), fun _ => ⟨y, rfl, ?_⟩, fun z => nomatch z⟩⟩
    have := x2 σ' H' env' Ps' y r' h3
    have hl' : lv (blkS S scope).M elt = false := hl
    rw [hl'] at this
    exact this
theorem lc_compIf {i : Nat} {t : Tg} {it : IT} {c elt : IE} {x yc tg ie : Expr} {scope : Scope} {y : Str} {py p sp : Pos} (hi : OkI k defs K S it tg ie) (hc : OkB k defs K (blkS S scope) c yc) (hx : OkE k defs K (blkS S scope) elt x) (hset : noSet ie = true) (hb : blkC S.N S.sc scope (ownOf S t) = true) (ht : chkT (blkS S scope) t tg = true) (hl : lv S.M elt = false)
    (hy : S.N[i]? = some y) (yl : S.sc.names.lookup y = some .local) (ln : (py.line == p.line) = true) (na : (scope.names.any fun (n, k) => n == y && (k == .local || k == .cell)) = false) :
    ∃ te, (∀ X, GdS S k defs K X → PS X (.Assign [.Name y py] (.ListComp x [⟨tg, ie, [yc], 0⟩] scope p) sp) (tAsg te (gName i))) ∧ ∀ σ H env Ps d, EnvR K S.M H Ps σ env → evalE (callF defs k) (.compIf t it c elt) env = .ok d → EvF K te σ H Ps d := by
  obtain ⟨wi, i1, i2⟩ := id hi
  obtain ⟨tt, c1, c2⟩ := id hc
  obtain ⟨te, x1, x2⟩ := id hx
  refine ⟨tLc wi (tgR K t) tt te ((ownOf S t).map (·.2)), fun X g => ?_, ?_⟩
  · have yl' : X.env.scope.names.lookup y = some .local := by rw [g.gd.sc]; exact yl
    refine ps_setLc g.gd.calm (by rw [g.gd.N]; exact g.gd.nd) (by rw [g.gd.N]; exact hy) yl' (sw_true (by rw [g.gd.sc]; exact g.kind) yl' ln na) (i1 X g.gd) (by rw [g.gd.N, g.gd.sc]; exact blkOk_by hb) (fun s H C cl fp => ?_) (fun s H C cl fp => pts_one (c1 _ (g.gd.blk s H scope C cl fp))) (fun s H C cl fp => x1 _ (g.gd.blk s H scope C cl fp)) (fun v => fold_plain hset v)
    exact tg_pg (g.gd.blk s H scope C cl fp) ht
  · intro σ H env Ps d r e
    simp only [evalE] at e
    obtain ⟨ds, e1, e⟩ := bind_split e
    obtain ⟨rr, e2, e⟩ := bind_split e
    cases e
    refine evCompF own_snd r (i2 σ H env Ps ds r e1) (tg_ok (S := blkS S scope) ht) (tame_split e2) fun d o ho => ?_
    obtain ⟨env', h1, h2⟩ := bind_split ho
    obtain ⟨u, h3, h4⟩ := bind_split h2
    obtain ⟨b, h5, h6⟩ := bind_split h4
    refine ⟨env', h1, fun σ' H' Ps' r' => ⟨b, c2 σ' H' env' Ps' b r' (by rw [h3]; exact h5), fun hb => ?_, fun hb => ?_⟩⟩
    · subst hb
      obtain ⟨y, h7, h8⟩ := bind_split (show (evalE (callF defs k) elt env').bind (fun x => Res.ok (some x)) = .ok o from h6)
      cases h8
      refine ⟨y, rfl, ?_⟩
      have := x2 σ' H' env' Ps' y r' h7
      have hl' : lv (blkS S scope).M elt = false := hl
      rw [hl'] at this
      exact this
    · subst hb
      cases h6
      rfl
theorem lc_ev {i : Nat} {ie : IE} {st : Stmt} (h : ∃ te, (∀ X, GdS S k defs K X → PS X st (tAsg te (gName i))) ∧ ∀ σ H env Ps d, EnvR K S.M H Ps σ env → evalE (callF defs k) ie env = .ok d → EvF K te σ H Ps d) : ∃ te, (∀ X, GdS S k defs K X → PS X st (tAsg te (gName i))) ∧ ∀ σ H env Ps d, EnvR K S.M H Ps σ env → evalE (callF defs k) ie env = .ok d → EvD K te σ H Ps false d := by
  obtain ⟨te, h1, h2⟩ := h
  exact ⟨te, h1, fun σ H env Ps d r e => (h2 σ H env Ps d r e).ev r.dom⟩
theorem lc_fr {i : Nat} {ie : IE} {st : Stmt} (h : ∃ te, (∀ X, GdS S k defs K X → PS X st (tAsg te (gName i))) ∧ ∀ σ H env Ps d, EnvR K S.M H Ps σ env → evalE (callF defs k) ie env = .ok d → EvF K te σ H Ps d) : ∃ te, (∀ X, GdS S k defs K X → PS X st (tAsg te (gName i))) ∧ ∀ σ H env Ps d, EnvR K S.M H Ps σ env → evalE (callF defs k) ie env = .ok d → freshD d = true → EvF K te σ H Ps d := by
  obtain ⟨te, h1, h2⟩ := h
  exact ⟨te, h1, fun σ H env Ps d r e _ => h2 σ H env Ps d r e⟩
theorem nm_ok {i : Nat} {tg : Expr} (h : chkT S (.nm i) tg = true) : ∃ x p, tg = .Name x p ∧ S.N[i]? = some x ∧ S.M.contains i = false := by
  cases tg with
  | Name x p =>
    simp only [chkT, Bool.and_eq_true, Bool.not_eq_true'] at h
    have h1 := h.1
    unfold locB at h1
    simp only [Bool.and_eq_true, decide_eq_true_eq] at h1
    exact ⟨x, p, rfl, h1.1, h.2⟩
  | _ => simp [chkT] at h
/-- a comprehension to a name -/
theorem sound_lc {i : Nat} {ie : IE} {y : Str} {py sp : Pos} {e : Expr} (hic : isComp ie = true) (h : chkE S ie e = true) (hy : S.N[i]? = some y) (hsw : swB S y py e = true) : ∃ te, (∀ X, GdS S k defs K X → PS X (.Assign [.Name y py] e sp) (tAsg te (gName i))) ∧ ∀ σ H env Ps d, EnvR K S.M H Ps σ env → evalE (callF defs k) ie env = .ok d → EvF K te σ H Ps d := by
  obtain ⟨elt, gs, scope, p, rfl, s1, s2, s3⟩ := swB_ok hsw
  cases ie with
  | comp t it el =>
    unfold chkE at h
    split at h <;> first | (cases h; done) | skip
    rename_i heq
    cases heq
    simp only [Bool.and_eq_true, Bool.not_eq_true'] at h
    obtain ⟨⟨⟨⟨⟨⟨⟨h1, h2⟩, h3⟩, h4⟩, h5⟩, h6⟩, _⟩, _⟩ := h
    exact lc_comp (soundIT it S _ _ h1) (soundE el _ _ h5) h2 h3 h4 h6 hy s1 s2 s3
  | compIf t it c el =>
    unfold chkE at h
    split at h <;> first | (cases h; done) | skip
    rename_i heq
    cases heq
    simp only [Bool.and_eq_true, Bool.not_eq_true'] at h
    obtain ⟨⟨⟨⟨⟨⟨⟨⟨h1, h2⟩, h3⟩, h4⟩, hc⟩, h5⟩, h6⟩, _⟩, _⟩ := h
    exact lc_compIf (soundIT it S _ _ h1) (soundB c _ _ hc) (soundE el _ _ h5) h2 h3 h4 h6 hy s1 s2 s3
  | _ => cases hic
/-- new things -/
theorem soundF {ie : IE} {e : Expr} (hf : frE ie = true) (h : chkE S ie e = true) : OkF k defs K S ie e := by
  cases ie with
  | lst es =>
    unfold chkE at h
    split at h <;> first | (cases h; done) | skip
    simp only [Bool.and_eq_true, decide_eq_true_eq] at h
    exact okF_lst (soundEs es S _ h.1) h.1 h.2
  | dsp ks es =>
    unfold chkE at h
    split at h <;> first | (cases h; done) | skip
    simp only [Bool.and_eq_true, decide_eq_true_eq] at h
    obtain ⟨p1, p2, p3, p4⟩ := soundP (k := k) (defs := defs) (K := K) es S ks _ _ h.1
    obtain ⟨t, t1, t2⟩ := okF_dsp p1 p2 p3 h.2 p4
    exact ⟨t, t1, fun σ H env Ps d r e _ => t2 σ H env Ps d r e⟩
  | o1 op a =>
    cases op <;> first | (cases hf; done) | skip
    unfold chkE at h
    split at h <;> first | (cases h; done) | skip
    rename_i x q
    exact okF_list (soundE a S x h) q
  | o2 op a b =>
    cases op <;> first | (cases hf; done) | skip
    · unfold chkE at h
      split at h <;> first | (cases h; done) | skip
      rename_i x y q
      simp only [Bool.and_eq_true] at h
      exact okF_o2 (soundE a S x h.1) (soundE b S y h.2) q rfl (fun X g => g ▸ op_addBI.or (op_add.or (op_add_str.or (op_cat.or op_catF)))) fr_add
    · unfold chkE at h
      split at h <;> first | (cases h; done) | skip
      rename_i x y q
      simp only [Bool.and_eq_true] at h
      exact okF_o2 (soundE a S x h.1) (soundE b S y h.2) q rfl (fun X g => op_mulBI.or (op_mul.or (op_rep.or op_repS))) fr_mul
  | o3 op a b c =>
    cases op <;> first | (cases hf; done) | skip
    unfold chkE at h
    split at h <;> first | (cases h; done) | skip
    rename_i x y z q
    simp only [Bool.and_eq_true] at h
    exact okF_sl (soundE a S x h.1.1) (okO_of h.1.2 fun y' hy => soundE b S y' hy) (okO_of h.2 fun z' hz => soundE c S z' hz) q
  | _ => cases hf
theorem tg_star {t : Tg} {tg : Expr} (h : chkT S t tg = true) : noStar tg = true := by
  cases tg <;> first | rfl | (cases t <;> simp [chkT] at h)
mutual
theorem soundS : ∀ (is : IS) (S : Sx) (hk : S.sc.kind = .function) (st : Stmt), chkS S is st = true → OkS k defs K S is st
  | .pass, S, hk, st, h => by
    unfold chkS at h
    split at h <;> first | (cases h; done) | skip
    exact okS_pass
  | .asg t e, S, hk, st, h => by
    unfold chkS at h
    split at h <;> first | (cases h; done) | skip
    rename_i tg x p
    simp only [Bool.and_eq_true, Bool.not_eq_true', Bool.or_eq_true] at h
    obtain ⟨⟨⟨h1, h2⟩, h3⟩, h4⟩ := h
    rcases h4 with (⟨h4, h5⟩ | ⟨h4, h5⟩) | ⟨h4, h5⟩
    · refine okS_asg (soundE e S x h2) h1 h3 (fun X g => swap_noComp h4) (fun env => ?_) (tg_star h1)
      rcases h5 with h5 | h5
      · cases t with
        | nm i =>
          obtain ⟨y, py, rfl, _⟩ := nm_ok h1
          exact stores_name
        | tu _ => cases h5
      · exact stores_noTup h5
    · cases t with
      | nm i =>
        obtain ⟨y, py, rfl, hy, hm⟩ := nm_ok h1
        exact okS_asgLc (lc_ev (sound_lc h4.2 h2 hy h5)) hm
      | tu _ => cases h4.1
    · cases t with
      | nm i =>
        obtain ⟨y, py, rfl, hy, hm⟩ := nm_ok h1
        exact okS_asg (soundE e S x h2) h1 h3 (fun X g => swN_ok g h5) (fun env => stores_name) rfl
      | tu _ => cases h4
  | .par i j a b, S, hk, st, h => by
    unfold chkS at h
    split at h <;> first | (cases h; done) | skip
    simp only [Bool.and_eq_true, Bool.not_eq_true', decide_eq_true_eq] at h
    obtain ⟨⟨⟨⟨⟨⟨⟨⟨⟨⟨⟨⟨⟨⟨⟨⟨h1, h2⟩, h3⟩, h4⟩, h5⟩, h6⟩, h7⟩, h8⟩, h9⟩, h10⟩, h11⟩, h12⟩, h13⟩, h14⟩, h15⟩, h16⟩, h17⟩ := h
    exact okS_par (soundE a S _ h12) (soundE b S _ h13) h14 h15 h10 h11 h1 h2 h3 h4 h5 h6 h7 h8 h9 h16 h17 hk
  | .bad, S, hk, st, h => okS_bad
  | .mset i e, S, hk, st, h => by
    unfold chkS at h
    split at h <;> first | (cases h; done) | skip
    simp only [Bool.and_eq_true, Bool.or_eq_true] at h
    obtain ⟨⟨⟨h1, h2⟩, h3⟩, h4⟩ := h
    rcases h4 with ⟨h4, h5⟩ | ⟨h4, h5⟩
    · exact okF_mset h2 h1 (soundF h4 h3) h5
    · have hy := h1
      unfold locB at hy
      simp only [Bool.and_eq_true, decide_eq_true_eq] at hy
      exact okS_mset h2 (lc_fr (sound_lc h4 h3 hy.1 h5))
  | .app i e, S, hk, st, h => by
    unfold chkS at h
    split at h <;> first | (cases h; done) | skip
    rename_i q
    simp only [Bool.and_eq_true, Bool.not_eq_true'] at h
    exact okS_app q h.1.1.1.1 h.1.1.1.2 h.1.1.2 (soundE e S _ h.1.2) h.2
  | .ext i e, S, hk, st, h => by
    unfold chkS at h
    split at h <;> first | (cases h; done) | skip
    rename_i q
    simp only [Bool.and_eq_true, Bool.not_eq_true'] at h
    exact okS_ext q h.1.1.1.1 h.1.1.1.2 h.1.1.2 (soundE e S _ h.1.2) h.2
  | .ins i a e, S, hk, st, h => by
    unfold chkS at h
    split at h <;> first | (cases h; done) | skip
    rename_i q
    simp only [Bool.and_eq_true, Bool.not_eq_true'] at h
    exact okS_ins q h.1.1.1.1.1.1 h.1.1.1.1.1.2 h.1.1.1.1.2 h.1.1.1.2 (soundE a S _ h.1.1.2) (soundE e S _ h.1.2) h.2
  | .put i a e, S, hk, st, h => by
    unfold chkS at h
    split at h <;> first | (cases h; done) | skip
    simp only [Bool.and_eq_true, Bool.not_eq_true'] at h
    exact okS_put h.1.1.1.1.1 h.1.1.1.1.2 (soundE a S _ h.1.1.1.2) (soundE e S _ h.1.1.2) h.1.2 h.2
  | .ret e, S, hk, st, h => by
    unfold chkS at h
    split at h <;> first | (cases h; done) | skip
    exact okS_ret (soundE e (dirty S) _ h)
  | .if_ c a b, S, hk, st, h => by
    unfold chkS at h
    split at h <;> first | (cases h; done) | skip
    simp only [Bool.and_eq_true] at h
    exact okS_if (soundB c (dirty S) _ h.1.1) (soundSs a S hk _ h.1.2) (soundSs b S hk _ h.2)
  | .for_ t it body, S, hk, st, h => by
    unfold chkS at h
    split at h <;> first | (cases h; done) | skip
    simp only [Bool.and_eq_true] at h
    exact okS_for (soundIT it S _ _ h.1.1.2) (soundSs body S hk _ h.2) h.1.1.1 h.1.2
  | .while_ n c body, S, hk, st, h => by
    unfold chkS at h
    split at h <;> first | (cases h; done) | skip
    simp only [Bool.and_eq_true] at h
    exact okS_while (soundB c (dirty S) _ h.1) (soundSs body S hk _ h.2)
  | .appPop i j e, S, hk, st, h => by
    unfold chkS at h
    split at h <;> first | (cases h; done) | skip
    rename_i q
    simp only [Bool.and_eq_true, decide_eq_true_eq] at h
    obtain ⟨⟨⟨⟨⟨⟨⟨h1, h2⟩, h3⟩, h4⟩, h5⟩, h6⟩, h7⟩, h8⟩ := h
    subst h1
    exact okS_appPop q h2 h3 h4 h5 h6 h7 (soundE e S _ h8)
  | .exp e, S, hk, st, h => by
    unfold chkS at h
    split at h <;> first | (cases h; done) | skip
    rename_i x p
    simp only [Bool.and_eq_true, Bool.not_eq_true'] at h
    exact okS_exp (soundE e S x h.1.1) h.1.2 h.2
  | .try_ body, S, hk, st, h => by
    unfold chkS at h
    split at h <;> first | (cases h; done) | skip
    exact okS_try (soundSs body S hk _ h)
theorem soundSs : ∀ (is : ISs) (S : Sx) (hk : S.sc.kind = .function) (st : List Stmt), chkSs S is st = true → OkSs k defs K S is st
  | .nil, S, hk, [], _ => okSs_nil
  | .nil, S, hk, _ :: _, h => by simp [chkSs] at h
  | .cons _ _, S, hk, [], h => by simp [chkSs] at h
  | .cons a as, S, hk, s :: ss, h => by
    simp only [chkSs, Bool.and_eq_true] at h
    exact okSs_cons (soundS a S hk s h.1) (soundSs as S hk ss h.2)
  | .pub ms as, S, hk, ss, h => by
    simp only [chkSs, Bool.and_eq_true, List.all_eq_true] at h
    exact okSs_pub h.1 (soundSs as (pubS S ms) hk ss h.2)
  | .minus2 r o th v, S, hk, ss, h => by
    unfold chkSs at h
    split at h
    · simp only [Bool.and_eq_true, decide_eq_true_eq] at h
      obtain ⟨⟨⟨⟨⟨⟨⟨⟨⟨⟨⟨⟨⟨h1, rfl⟩, h3⟩, h4⟩, h5⟩, h7⟩, h8⟩, h9⟩, h10⟩, h11⟩, h12⟩, h13⟩, h14⟩, h15⟩ := h
      exact okSs_minus h1 h3 h4 (soundE _ S _ h5) (soundIT _ S _ _ h7) h8 h9 h10 h11 h12 h13 h14 h15
    · cases h
  | .once2 i j l, S, hk, ss, h => by
    unfold chkSs at h
    split at h
    · simp only [Bool.and_eq_true, decide_eq_true_eq] at h
      obtain ⟨⟨⟨⟨⟨⟨⟨⟨⟨⟨⟨h1, h2⟩, h3⟩, h4⟩, h5⟩, h6⟩, h7⟩, h8⟩, rfl⟩, h10⟩, rfl⟩, h12⟩ := h
      exact okSs_once (soundIT _ S _ _ h2) h1 h3 h4 h5 h6 h7 h8 h10 h12
    · cases h
end
end

/-! ### how arguments come to plain parameters -/
theorem fm_congr {α β : Type} {f g : α → Option β} : ∀ {l : List α}, (∀ x ∈ l, f x = g x) → l.filterMap f = l.filterMap g
  | [], _ => rfl
  | a :: l, h => by rw [List.filterMap_cons, List.filterMap_cons, h a (by simp), fm_congr fun x hx => h x (List.mem_cons_of_mem _ hx)]
theorem look_zip : ∀ (ps : List Str) (us : List Value), us.length = ps.length → ∀ n ∈ ps, ((ps.zip us).lookup n).isNone = false
  | [], _, _, n, h => by simp at h
  | p :: ps, [], h, n, _ => by simp at h
  | p :: ps, u :: us, h, n, hn => by
    rw [List.zip_cons_cons, List.lookup_cons]
    by_cases e : n == p
    · simp [e]
    · simp only [e]
      refine look_zip ps us (by simpa using h) n ?_
      rcases List.mem_cons.mp hn with z | z
      · subst z; simp at e
      · exact z
theorem zip_look : ∀ (ps : List Str) (us : List Value), ps.Nodup → us.length = ps.length → ps.filterMap (fun n => ((ps.zip us).lookup n).map (n, ·)) = ps.zip us
  | [], _, _, _ => by simp
  | p :: ps, [], _, h => by simp at h
  | p :: ps, u :: us, nd, h => by
    have nd' := List.nodup_cons.mp nd
    have ih := zip_look ps us nd'.2 (by simpa using h)
    rw [List.zip_cons_cons, List.filterMap_cons]
    simp only [List.lookup_cons, beq_self_eq_true, Option.map_some]
    congr 1
    refine Eq.trans (fm_congr fun n hn => ?_) ih
    have : (n == p) = false := by
      rw [beq_eq_false_iff_ne]
      intro z; subst z; exact nd'.1 hn
    simp only [this]
def plainArgs : Arguments → Option (List Str)
  | ⟨[], args, none, [], [], none, []⟩ => some (args.map (·.arg))
  | _ => none
theorem bind_plain {x qual : Str} {body : List Stmt} {scope : Scope} {kV doc pm : Value} {an : Option Addr} {cdv ct : Value} {args : Arguments} {ps : List Str} (us : List Value) (ha : plainArgs args = some ps) (nd : ps.Nodup) (hl : us.length = ps.length) :
    bindArgs (PySem.W.fnOf x qual args body scope .none kV doc pm an cdv ct) ⟨us, []⟩ = pure (ps.zip us) := by
  unfold plainArgs at ha
  split at ha <;> first | (cases ha; done) | skip
  rename_i args
  have hps := Option.some.inj ha
  have hm : ps.filter (fun n => ((ps.zip us).lookup n).isNone) = [] := by
    rw [List.filter_eq_nil_iff]
    intro n hn
    rw [look_zip _ us hl n hn]
    simp
  have hf : ps.filterMap (fun n => ((ps.zip us).lookup n).map (n, ·)) = ps.zip us := zip_look ps us nd hl
  have hd : seqItems? Value.none = pure Option.none := rfl
  have hg : ¬ us.length > ps.length := by omega
  have pb : ∀ {α β : Type} (a : α) (f : α → Sem β), (pure a >>= f : Sem β) = f a := fun _ _ => rfl
  unfold bindArgs
  dsimp only [PySem.W.fnOf]
  rw [hps]
  simp only [List.map_nil, List.nil_append, List.forIn_nil, hd, Option.getD_none, List.length_nil, List.drop_nil, Nat.sub_zero, Nat.zero_sub, List.take_length, List.drop_length, List.zip_nil_right, hm, List.isEmpty_nil, Bool.not_true, List.append_nil, hf]
  simp only [pb, hg, decide_false, Bool.false_and, Option.getD_none, List.length_nil, List.drop_nil, Nat.sub_zero, Nat.zero_sub, List.take_length, List.drop_length, List.zip_nil_right, hm, List.isEmpty_nil, Bool.not_true, List.append_nil, hf, List.forIn_nil, if_false, Bool.false_eq_true]

/-! ### one def of ours, and its image -/
structure PF where
  f : Nat
  i : Nat
  x : Str
  N : List Str
  ps : List Str
  M : List Nat
def Sx.of (fnm : Nat → Option (Str × Nat)) (gl : List (Str × D)) (p : PF) (sc : Scope) : Sx := { N := p.N, sc := sc, M := p.M, fnm := fnm, gl := gl, fnc := fun _ => true }
def isFun : ScopeKind → Bool
  | .function => true
  | _ => false
def scopeB (N ps : List Str) (sc : Scope) : Bool := isFun sc.kind && !sc.isCoroutine && !sc.isGenerator && decide N.Nodup && decide (N.take ps.length = ps) && ps.all (fun x => locK true (sc.names.lookup x)) && sc.names.all fun y => match y.2 with | .free => false | _ => true
theorem scope_ok {N ps : List Str} {sc : Scope} (h : scopeB N ps sc = true) : FnScope N ps sc := by
  unfold scopeB at h
  simp only [Bool.and_eq_true, decide_eq_true_eq, Bool.not_eq_true', List.all_eq_true] at h
  obtain ⟨⟨⟨⟨⟨⟨h1, h2⟩, h3⟩, h4⟩, h5⟩, h6⟩, h7⟩ := h
  refine ⟨?_, h2, h3, h4, h5, fun x hx => ?_, fun y hy e => ?_⟩
  · cases q : sc.kind with
    | function => rfl
    | _ => rw [q] at h1; cases h1
  · have := h6 x hx
    cases q : sc.names.lookup x with
    | none => rw [q] at this; cases this
    | some kd => cases kd <;> first | (rw [q] at this; cases this; done) | simp
  · have := h7 y hy
    rw [e] at this
    cases this
/-- the def's text and its image -/
def chkF (fnm : Nat → Option (Str × Nat)) (gl : List (Str × D)) (defs : Nat → Option FDef) (p : PF) (st : Stmt) : Bool :=
  (match defs p.f with
    | some fd => decide (fd.n = p.N.length) && decide (fd.arity = p.ps.length) && chkSs (Sx.of fnm gl p (defScope st)) fd.body (defBody st)
    | none => false) &&
  decide (fnm p.f = some (p.x, p.ps.length)) && scopeB p.N p.ps (defScope st) && p.M.all (fun i => decide (p.ps.length ≤ i)) && decide (plainArgs (defArgs st) = some p.ps) && decide p.ps.Nodup
/-- all that the program's top has left -/
structure Top (P : Program) (w : World) (K : PySem.W.Frag) (mg : Str → Option Value) (base : Heap) (fnm : Nat → Option (Str × Nat)) (gl : List (Str × D)) (defs : Nat → Option FDef) (L : List PF) (top : Nat → Stmt) : Prop where
  gls : ∀ p ∈ gl, ∃ u, mg p.1 = some u ∧ RelV (gK K p.1) u
  glr : ∀ p ∈ gl, isDct p.2 = false → ∀ H, Rp K H (gK K p.1) p.2
  gld : ∀ p ∈ gl, ∀ kvs, p.2 = .dict kvs → KDp K p.1 kvs ∧ ∃ d es n, gK K p.1 = .ref d ∧ KDict K w d es n
  free : ∀ x ∈ freeNames, mg x = none
  chk : ∀ p ∈ L, chkF fnm gl defs p (top p.i) = true
  all : ∀ f x ar, fnm f = some (x, ar) → ∃ p ∈ L, p.f = f
  there : ∀ p ∈ L, ∃ a fd, mg p.x = some (.ref a) ∧ FunD K p.x p.x (defArgs (top p.i)) (defBody (top p.i)) (defScope (top p.i)) [] [] a fd
section
variable {P : Program} {w : World} {K : PySem.W.Frag} {mg : Str → Option Value} {base : Heap} {fnm : Nat → Option (Str × Nat)} {gl : List (Str × D)} {defs : Nat → Option FDef} {L : List PF} {top : Nat → Stmt}
/-- the slots at the entry -/
theorem start_env {M : List Nat} {H : Hp} {Ps : List Addr} {N ps : List Str} {vs : List V} {ds : List D} (r : RpAll K (hide H Ps) vs ds) (hl : ds.length = ps.length) (hm : ∀ i ∈ M, ps.length ≤ i) (hN : ps.length ≤ N.length) (dom : ∀ q ∈ Ps, H q ≠ none) : EnvR K M H Ps (L2.start N vs) (ds.map some ++ List.replicate (N.length - ds.length) none) where
  get := fun i d e => by
    have hi : i < ds.length := by
      by_cases hi : i < ds.length
      · exact hi
      · rw [List.getElem?_append_right (by simp; omega), List.getElem?_replicate] at e
        split at e <;> cases e
    rw [List.getElem?_append_left (by simpa using hi), List.getElem?_map] at e
    cases q : ds[i]? with
    | none => rw [q] at e; cases e
    | some d' =>
      rw [q] at e
      cases e
      obtain ⟨v, h1, h2⟩ := r.getD q
      refine ⟨v, ?_, .of h2, fun z => ?_⟩
      · unfold L2.start
        rw [List.getElem?_append_left (by rw [List.length_map, r.length]; exact hi), List.getElem?_map, h1]
        rfl
      · have := hm i (List.contains_iff_mem.mp z)
        omega
  inj := fun i j p d e hi hj hij h1 h2 h3 h4 => by
    have := hm i (List.contains_iff_mem.mp hi)
    rw [List.getElem?_append_right (by simp; omega), List.getElem?_replicate] at h1
    split at h1 <;> cases h1
  dom := dom
  len := by
    unfold L2.start
    simp [r.length]
theorem fns_ok (T : Top P w K mg base fnm gl defs L top) : ∀ (k : Nat) (p : PF), p ∈ L → ∀ a fd, mg p.x = some (.ref a) → FunD K p.x p.x (defArgs (top p.i)) (defBody (top p.i)) (defScope (top p.i)) [] [] a fd → FnOk P w K mg base (L2.CX P w) k a fd p.ps (spF K p.ps.length (callF defs k p.f))
  | 0, p, hp, a, fd, hm, F => by
    have no : ∀ vs H Q E, ¬ spF K p.ps.length (callF defs 0 p.f) vs H Q E := fun vs H Q E h => by
      obtain ⟨_, ds, Ps, d, _, _, e, _⟩ := h
      cases e
    exact ⟨fun vs H Q E h => absurd h (no vs H Q E), fun A outer s H args us vs Q E _ _ _ _ h => absurd h (no vs H Q E)⟩
  | k + 1, p, hp, a, fd, hm, F => by
    have hc := T.chk p hp
    unfold chkF at hc
    simp only [Bool.and_eq_true, decide_eq_true_eq, List.all_eq_true] at hc
    obtain ⟨⟨⟨⟨⟨c1, c2⟩, c3⟩, c4⟩, c5⟩, c6⟩ := hc
    cases hd : defs p.f with
    | none => rw [hd] at c1; cases c1
    | some fdef =>
      rw [hd] at c1
      simp only [Bool.and_eq_true, decide_eq_true_eq] at c1
      obtain ⟨⟨n1, n2⟩, n3⟩ := c1
      have SC := scope_ok c3
      refine F.ok SC (fun vs H Q E h => h.1) fun cdv A outer s H vs Q E hr h => ?_
      obtain ⟨hlen, ds, Ps, d, rv, dom, e, q⟩ := h
      have kk : (Sx.of fnm gl p (defScope (top p.i))).sc.kind = .function := SC.kind
      obtain ⟨t, t1, t2⟩ := soundSs (k := k) (defs := defs) (K := K) fdef.body _ kk (defBody (top p.i)) n3
      have g : Gd (Sx.of fnm gl p (defScope (top p.i))) k defs K (cxOf (L2.CX P w) P w K mg base p.N p.x (defScope (top p.i)) a cdv A outer s H E) := {
        hK := rfl
        N := rfl
        nd := SC.nd
        sc := rfl
        calm := rfl
        room := hr
        fn := rfl
        free := T.free
        gls := T.gls
        glr := T.glr
        gld := T.gld
        fns := fun f x ar hf => by
          obtain ⟨p', hp', rfl⟩ := T.all f x ar hf
          have hc' := T.chk p' hp'
          unfold chkF at hc'
          simp only [Bool.and_eq_true, decide_eq_true_eq, List.all_eq_true] at hc'
          obtain ⟨⟨⟨⟨⟨_, d2⟩, _⟩, _⟩, d5⟩, d6⟩ := hc'
          have hf' : fnm p'.f = some (x, ar) := hf
          rw [d2] at hf'
          cases hf'
          obtain ⟨a', fd', m', F'⟩ := T.there p' hp'
          exact ⟨a', fd', p'.ps, m', F'.kp, F'.bindsN fun _ _ _ _ _ _ us hl => bind_plain us d5 d6 hl, fns_ok T k p' hp' a' fd' m' F'⟩ }
      refine ⟨t, t1 _ ⟨g, passes_of rfl, kk⟩, ?_⟩
      have hds : ds.length = p.ps.length := by rw [← rv.length, hlen]
      have hpn : p.ps.length ≤ p.N.length := by
        have := SC.pre
        have h2 := congrArg List.length this
        rw [List.length_take] at h2
        omega
      have e' : runF (callF defs k) fdef ds = .ok d := by
        have : callF defs (k + 1) p.f ds = runF (callF defs k) fdef ds := by simp only [callF, hd]
        rw [← this]; exact e
      unfold runF at e'
      rw [if_pos (by rw [n2]; exact hds)] at e'
      obtain ⟨fl, e1, e2⟩ := bind_split e'
      have r0 : SR K p.M H Ps H [] (L2.start p.N vs) (ds.map some ++ List.replicate (fdef.n - ds.length) none) := {
        er := by rw [n1]; exact start_env rv hds (fun i hi => c4 i hi) hpn dom
        ent := Same.refl _
        fr := fun p hp => nomatch hp
        odom := dom
        own := fun i d' hi he => by
          have hi' := c4 i (List.contains_iff_mem.mp hi)
          rw [List.getElem?_append_right (by simp; omega), List.getElem?_replicate] at he
          split at he <;> cases he }
      refine t2 H Ps (L2.start p.N vs) H _ [] fl r0 e1 _ ?_
      cases fl with
      | next env' =>
        cases e2
        exact fun σ' H' Ps' _ r' => q _ H' r'.ent .non
      | ret x =>
        cases e2
        exact fun v H' s' rv' => q v H' s' rv'
end
end Tq

/-! Tq, part N: a law's end. -/
namespace Tq
open PySem L2 Res
/-- the level at which the law is called -/
abbrev deep : Nat := 200
theorem room_law : Room deep callerA := ⟨rfl, by decide, by decide⟩
def defD (top : Nat → Stmt) (p : PF) : He.DefD := ⟨(p.x, none), p.x, p.x, defArgs (top p.i), defBody (top p.i), defScope (top p.i), [], []⟩
def faOf (L : List PF) : List He.Fa := freeNames.map He.Fa.free ++ L.map fun p => He.Fa.glo p.x
/-! ### what the module's names stand for -/
mutual
def valB (K : PySem.W.Frag) : D → Value → Bool
  | .none, .none => true
  | .bool b, .bool c => b == c
  | .int i, .int j _ => decide (i = j)
  | .str x, .str y _ => decide (x = y) && smallStr x
  | .tuple ds, .ref a => match K.lookup a with
    | some o => o.dict.isNone && (match o.cls with | .type c => decide (c = "tuple") | _ => false) && (match o.data with | .seq its _ => decide (its.size ≤ 1000) && valsB K ds its.toList | _ => false)
    | none => false
  | _, _ => false
def valsB (K : PySem.W.Frag) : List D → List Value → Bool
  | [], [] => true
  | d :: ds, u :: us => valB K d u && valsB K ds us
  | _, _ => false
end
mutual
theorem valB_ok {K : PySem.W.Frag} : ∀ (d : D) (u : Value), valB K d u = true → RelV (gV u) u ∧ ∀ H, Rp K H (gV u) d
  | .none, u, h => by
    cases u <;> first | (simp [valB] at h; done) | skip
    exact ⟨rfl, fun H => .non⟩
  | .bool b, u, h => by
    cases u <;> first | (simp [valB] at h; done) | skip
    have h := eq_of_beq (show (b == _) = true by simpa [valB] using h)
    subst h
    exact ⟨rfl, fun H => .bl b⟩
  | .int i, u, h => by
    cases u <;> first | (simp [valB] at h; done) | skip
    have h := of_decide_eq_true (show decide (i = _) = true by simpa [valB] using h)
    subst h
    exact ⟨⟨_, rfl⟩, fun H => .int i⟩
  | .str x, u, h => by
    cases u <;> first | (simp [valB] at h; done) | skip
    simp only [valB, smallStr, Bool.and_eq_true, decide_eq_true_eq] at h
    obtain ⟨rfl, h1, h2⟩ := h
    exact ⟨⟨_, rfl⟩, fun H => .str (Nat.le_of_lt (small1000 h1)) h2⟩
  | .tuple ds, u, h => by
    cases u <;> first | (simp [valB] at h; done) | skip
    rename_i a
    refine ⟨rfl, fun H => ?_⟩
    cases q : K.lookup a with
    | none => simp [valB, q] at h
    | some o =>
      simp only [valB, q, Bool.and_eq_true] at h
      obtain ⟨⟨h0, h1⟩, h2⟩ := h
      split at h1 <;> first | (cases h1; done) | skip
      rename_i c hc
      have h1 := of_decide_eq_true h1
      subst h1
      split at h2 <;> first | (cases h2; done) | skip
      rename_i its n hd
      simp only [Bool.and_eq_true, decide_eq_true_eq] at h2
      obtain ⟨h3, h4⟩ := h2
      obtain ⟨v1, v2⟩ := valsB_ok ds its.toList h4
      have hz : its.size ≤ sizeLine := Nat.le_of_lt (small1000 h3)
      refine .tup (xs := its.toList.map gV) (.inr ⟨o, its, n, q, hc, by simpa using h0, hd, hz, v1⟩) (v2 H) ?_
      have := (v2 H).length
      rw [← this]
      simpa using hz
  | .list _, u, h => by cases u <;> simp [valB] at h
  | .dict _, u, h => by cases u <;> simp [valB] at h
theorem valsB_ok {K : PySem.W.Frag} : ∀ (ds : List D) (us : List Value), valsB K ds us = true → Vals (us.map gV) us ∧ ∀ H, RpAll K H (us.map gV) ds
  | [], [], _ => ⟨.nil, fun H => .nil⟩
  | [], _ :: _, h => by simp [valsB] at h
  | _ :: _, [], h => by simp [valsB] at h
  | d :: ds, u :: us, h => by
    simp only [valsB, Bool.and_eq_true] at h
    obtain ⟨a1, a2⟩ := valB_ok d u h.1
    obtain ⟨b1, b2⟩ := valsB_ok ds us h.2
    exact ⟨.cons a1 b1, fun H => .cons (a2 H) (b2 H)⟩
end
/-- the entries of a dict of the module -/
def entsB (K : PySem.W.Frag) : List (D × D) → List DictEntry → Bool
  | [], [] => true
  | (.str x, d) :: kvs, e :: es => (match e.key with | .str y _ => decide (x = y) | _ => false) && valB K d e.val && entsB K kvs es
  | _, _ => false
def dctB (K : PySem.W.Frag) (kvs : List (D × D)) : Value → Bool
  | .ref a => (match K.lookup a with
    | some ⟨_, _, .dict es _, _⟩ => entsB K kvs es.toList
    | _ => false)
  | _ => false
def anyB (K : PySem.W.Frag) (d : D) (u : Value) : Bool := match d with
  | .dict kvs => dctB K kvs u
  | d => valB K d u
def conB (K : PySem.W.Frag) (p : Str × D) : Bool := match PySem.W.nsIn K mainGlobals p.1 with
  | some (some u) => anyB K p.2 u
  | _ => false
def isStr_key {e : DictEntry} {x : Str} (h : (match e.key with | .str y _ => decide (x = y) | _ => false) = true) : ∃ t, e.key = .str x t := by
  split at h
  · rename_i y t q
    have := of_decide_eq_true h
    subst this
    exact ⟨t, q⟩
  · cases h
theorem ents_look {K : PySem.W.Frag} (z : Str) : ∀ {kvs : List (D × D)} {es : List DictEntry}, entsB K kvs es = true →
    (∀ d, lookD z kvs = some d → ∃ e, es.find? (·.key.isStr z) = some e ∧ valB K d e.val = true) ∧ (lookD z kvs = none → es.find? (·.key.isStr z) = none ∧ es.any (·.refKey) = false)
  | [], [], _ => ⟨fun d h => (by cases h), fun _ => ⟨rfl, rfl⟩⟩
  | [], _ :: _, h => by simp [entsB] at h
  | (a, d) :: kvs, [], h => by cases a <;> simp [entsB] at h
  | (.str x, d) :: kvs, e :: es, h => by
    simp only [entsB, Bool.and_eq_true] at h
    obtain ⟨⟨h1, h2⟩, h3⟩ := h
    obtain ⟨t, hk⟩ := isStr_key h1
    obtain ⟨i1, i2⟩ := ents_look z h3
    have hs : e.key.isStr z = decide (x = z) := by
      rw [hk]
      show (x == z) = _
      by_cases q : x = z
      · subst q; simp
      · rw [decide_eq_false q]; exact beq_eq_false_iff_ne.mpr q
    have hr : e.refKey = false := by
      unfold DictEntry.refKey
      rw [hk]
    show (∀ d', (if x = z then some d else lookD z kvs) = some d' → _) ∧ ((if x = z then some d else lookD z kvs) = none → _)
    rw [List.find?_cons, List.any_cons, hs, hr]
    by_cases q : x = z
    · simp only [if_pos q, decide_eq_true q]
      exact ⟨fun d' h => (by cases h; exact ⟨e, rfl, h2⟩), fun h => (by cases h)⟩
    · simp only [if_neg q, decide_eq_false q, Bool.false_or]
      exact ⟨i1, i2⟩
  | (.none, d) :: kvs, e :: es, h => by simp [entsB] at h
  | (.bool _, d) :: kvs, e :: es, h => by simp [entsB] at h
  | (.int _, d) :: kvs, e :: es, h => by simp [entsB] at h
  | (.list _, d) :: kvs, e :: es, h => by simp [entsB] at h
  | (.tuple _, d) :: kvs, e :: es, h => by simp [entsB] at h
  | (.dict _, d) :: kvs, e :: es, h => by simp [entsB] at h
/-- the dicts among the module's names -/
def dctsOf : List (Str × D) → List (Str × List Str)
  | [] => []
  | (x, .dict kvs) :: r => (x, kvs.filterMap fun p => match p.1 with | .str k => some k | _ => none) :: dctsOf r
  | _ :: r => dctsOf r
def adr : V → Addr
  | .ref a => a
  | _ => 0
def dctsK (K : PySem.W.Frag) (gl : List (Str × D)) : List (Option (List (Option (Str × Int)))) := (dctsOf gl).map fun p => He.dicW K (adr (gK K p.1))
def dctsW (w : World) (gl : List (Str × D)) : List (Option (List (Option (Str × Int)))) := (dctsOf gl).map fun p => some (He.keysIn w.params p.2)
theorem dcts_in {x : Str} {kvs : List (D × D)} : ∀ {gl : List (Str × D)}, (x, PyData.dict kvs) ∈ gl → ∃ ks, (x, ks) ∈ dctsOf gl
  | [], h => by simp at h
  | (y, d) :: r, h => by
    rcases List.mem_cons.mp h with e | h
    · cases e
      exact ⟨_, List.mem_cons_self⟩
    · obtain ⟨ks, hk⟩ := dcts_in h
      refine ⟨ks, ?_⟩
      cases d <;> first | exact hk | exact List.mem_cons_of_mem _ hk
theorem dcts_at {K : PySem.W.Frag} {w : World} {gl : List (Str × D)} (e : dctsK K gl = dctsW w gl) {x : Str} {ks : List Str} (h : (x, ks) ∈ dctsOf gl) : ∃ es n, KDict K w (adr (gK K x)) es n := by
  obtain ⟨i, hi⟩ := List.mem_iff_getElem?.mp h
  have e2 : (dctsK K gl)[i]? = (dctsW w gl)[i]? := by rw [e]
  unfold dctsK dctsW at e2
  rw [List.getElem?_map, List.getElem?_map, hi] at e2
  exact He.dicW_ok (Option.some.inj e2)
theorem conB_ok {K : PySem.W.Frag} {h : Heap} {mg : Str → Option Value} (KX : K.In h) (G : h.Ns mainGlobals mg) {p : Str × D} (c : conB K p = true) : (∃ u, mg p.1 = some u ∧ RelV (gK K p.1) u) ∧ (isDct p.2 = false → ∀ H, Rp K H (gK K p.1) p.2) ∧ ∀ kvs, p.2 = .dict kvs → KDp K p.1 kvs := by
  unfold conB at c
  unfold gK
  cases q : PySem.W.nsIn K mainGlobals p.1 with
  | none => simp only [q] at c; cases c
  | some o =>
    cases o with
    | none => simp only [q] at c; cases c
    | some u =>
      simp only [q] at c
      cases hd : isDct p.2 with
      | false =>
        have c' : valB K p.2 u = true := by
          revert c hd
          cases p.2 <;> intro c hd <;> first | exact c | cases hd
        obtain ⟨a1, a2⟩ := valB_ok p.2 u c'
        exact ⟨⟨u, PySem.W.mg_of KX G q, a1⟩, fun _ => a2, fun kvs e => (by rw [e] at hd; cases hd)⟩
      | true =>
        obtain ⟨x, d⟩ := p
        cases d <;> first | (cases hd; done) | skip
        rename_i kvs
        have c' : dctB K kvs u = true := c
        unfold dctB at c'
        cases u <;> first | (cases c'; done) | skip
        rename_i a
        refine ⟨⟨.ref a, PySem.W.mg_of KX G q, rfl⟩, fun h => by (cases h), fun kvs' e => ?_⟩
        cases e
        refine ⟨a, by unfold gK; simp only [q]; rfl, fun z => ?_⟩
        dsimp only at c'
        split at c'
        · rename_i cls dct es n sl hl
          obtain ⟨i1, i2⟩ := ents_look z c'
          refine ⟨fun d hd => ?_, fun hn => ?_⟩
          · obtain ⟨e, h1, h2⟩ := i1 d hd
            obtain ⟨b1, b2⟩ := valB_ok d e.val h2
            refine ⟨e.val, ?_, b1, b2⟩
            unfold PySem.W.nsIn
            simp only [hl, h1]
          · obtain ⟨h1, h2⟩ := i2 hn
            unfold PySem.W.nsIn
            simp only [hl, h1, h2, Bool.false_eq_true, if_false]
        · cases c'
/-! ### the hook, with the module's names -/
abbrev AlQ : Type := He.AlD × Bool × List (Option (List (Option (Str × Int))))
def obsT (n : Nat) (fa : List He.Fa) (fn : List He.DefD) (gl : List (Str × D)) (g : Addr → Option Obj) : AlQ := (He.obsD fa fn (He.frG g (He.asD g n)), gl.all (conB (He.frG g (He.asD g n))), dctsK (He.frG g (He.asD g n)) gl)
def hookT (n : Nat) (fa : List He.Fa) (fn : List He.DefD) (gl : List (Str × D)) : PySem.W.Hook where
  α := AlQ
  obs := fun s => obsT n fa fn gl s.heap.get?
  val := fun w => (He.valD fn, true, dctsW w gl)
  says := fun w h => ∃ K : PySem.W.Frag, K.In h ∧ He.SaysD fa fn K ∧ gl.all (conB K) = true ∧ dctsK K gl = dctsW w gl
  of := fun _ _ e => ⟨_, He.frG_in, congrArg (fun z : AlQ => z.1) e, congrArg (fun z : AlQ => z.2.1) e, congrArg (fun z : AlQ => z.2.2) e⟩
  keeps := fun _ _ _ ⟨K, hK, c, c'⟩ k => ⟨K, PySem.W.Frag.In.keeps hK k, c, c'⟩
theorem obsT_eq {n : Nat} {fa : List He.Fa} {fn : List He.DefD} {gl : List (Str × D)} {g : Addr → Option Obj} {s : Shared} (h : ∀ a, g a = s.heap.get? a) : obsT n fa fn gl g = (hookT n fa fn gl).obs s := by
  have e : g = s.heap.get? := funext h
  rw [e]; rfl
section
variable {K : PySem.W.Frag} {h : Heap} {mg : Str → Option Value} {top : Nat → Stmt} {L : List PF} {fn : List He.DefD}
theorem mem_at {α : Type} {l : List α} {a : α} (h : a ∈ l) : ∃ i : Nat, l[i]? = some a := List.mem_iff_getElem?.mp h
theorem top_of {P : Program} {w : World} {base : Heap} {fnm : Nat → Option (Str × Nat)} {gl : List (Str × D)} {defs : Nat → Option FDef} (KX : K.In h) (G : h.Ns mainGlobals mg) (c : He.SaysD (faOf L) (L.map (defD top)) K) (cg : gl.all (conB K) = true) (cd : dctsK K gl = dctsW w gl)
    (chk : ∀ p ∈ L, chkF fnm gl defs p (top p.i) = true) (all : ∀ f x ar, fnm f = some (x, ar) → ∃ p ∈ L, p.f = f) : Top P w K mg base fnm gl defs L top where
  gls := fun p hp => (conB_ok KX G (List.all_eq_true.mp cg p hp)).1
  glr := fun p hp => (conB_ok KX G (List.all_eq_true.mp cg p hp)).2.1
  gld := fun p hp kvs e => by
    have h1 := (conB_ok KX G (List.all_eq_true.mp cg p hp)).2.2 kvs e
    obtain ⟨d, e1, _⟩ := id h1
    obtain ⟨ks, hk⟩ := dcts_in (x := p.1) (kvs := kvs) (gl := gl) (by rw [← e]; exact hp)
    obtain ⟨es, n, D⟩ := dcts_at cd hk
    rw [e1] at D
    exact ⟨h1, d, es, n, e1, D⟩
  free := fun x hx => by
    obtain ⟨i, hi⟩ := mem_at (show He.Fa.free x ∈ faOf L from List.mem_append_left _ (List.mem_map.mpr ⟨x, hx, rfl⟩))
    exact He.free_ok KX G (c.fact i hi)
  chk := chk
  all := all
  there := fun p hp => by
    obtain ⟨i, hi⟩ := mem_at (show He.Fa.glo p.x ∈ faOf L from List.mem_append_right _ (List.mem_map.mpr ⟨p, hp, rfl⟩))
    obtain ⟨j, hj⟩ := mem_at (show defD top p ∈ L.map (defD top) from List.mem_map.mpr ⟨p, hp, rfl⟩)
    obtain ⟨fd, F⟩ := c.def_ j hj
    exact ⟨_, fd, He.glo_ok KX G (c.fact i hi), F⟩
end
theorem walk_tq {l : PySem.W.OpenLaw} {q : Program} {loose : List Str} {XP : (Str → Option Value) → Heap → Prop} {d : DefRec} {top : Nat → Stmt} {L : List PF} {fnm : Nat → Option (Str × Nat)} {gl : List (Str × D)} {defs : Nat → Option FDef}
    (hn : l.most = some 63) (hdf : d.params.defaults = []) (p : PF) (hp : p ∈ L) (hx : d.name = p.x) (hps : p.ps = [("script" : Str)])
    (chk : ∀ p ∈ L, chkF fnm gl defs p (top p.i) = true) (all : ∀ f x ar, fnm f = some (x, ar) → ∃ p ∈ L, p.f = f)
    (res : ∀ ns : List Int, ns.length ≤ 63 → callF defs deep p.f [scrD (ns.map PyData.int)] = .ok (.bool true)) :
    PySem.W.WalkO q loose XP (hookT 4 (faOf L) (L.map (defD top)) gl).says l.row.toRowW d [] (fun f vs => PySem.call f vs) := by
  refine Att.attach_call hn hdf fun w s₀ s₁ mg mb fa o pm cd doc a vs ns G Y ho hd hcd hmg hobj hints hlen hg => ?_
  obtain ⟨K, KX, c, cg, cd⟩ := Y
  have T : ∀ base : Heap, Top l.prog w K mg base fnm gl defs L top := fun base => top_of KX G.T.g c cg cd chk all
  obtain ⟨a', fd, m', F⟩ := (T s₁.heap).there p hp
  rw [hx, m'] at hmg
  cases hmg
  have hc := chk p hp
  unfold chkF at hc
  simp only [Bool.and_eq_true, decide_eq_true_eq, List.all_eq_true] at hc
  obtain ⟨⟨⟨⟨⟨_, _⟩, _⟩, _⟩, d5⟩, d6⟩ := hc
  refine law_call (CX := L2.CX l.prog w) (x := "script") (fd := fd) (sp := spF K 1 (callF defs deep p.f)) KX G.T.g G.T.b G.T.builtins G.T.nolimit hg hobj hints (Nat.le_trans hlen (by decide)) room_law (fun base _ _ => ?_) (fun s u => ?_) (fun H hO hS => ?_) fun H e s' z => ?_
  · have := fns_ok (T base) deep p hp _ fd m' F
    rw [hps] at this
    exact this
  · have := F.bindsA (ps := p.ps) (fun _ _ _ _ _ _ us hl => bind_plain us d5 d6 hl) s [u] (by rw [hps]; rfl)
    rw [hps] at this
    exact this
  · refine ⟨rfl, [scrD (ns.map PyData.int)], [], .bool true, .cons (.scr (xs := ns.map V.int) (by rw [hide_nil]; exact hS) ?_ ?_) .nil, fun _ hq => by simp at hq, res ns hlen, fun v H' _ rv => ?_⟩
    · have : ∀ ms : List Int, RpAll K (hide H []) (ms.map V.int) (ms.map PyData.int) := fun ms => by
        induction ms with
        | nil => exact .nil
        | cons m ms ih => exact .cons (.int m) ih
      exact this ns
    · rw [List.length_map]
      exact Nat.le_trans hlen (by decide)
    · cases rv
      rfl
  · obtain ⟨_, _, _, _, _, _, _, _, _, _, _, _, zz⟩ := z
    exact zz
end Tq

/-! Tq, part P: small rules for reckoning with images. -/
namespace Tq
open PySem L2 Res
section
variable {ρ : Nat → List D → Res D}
@[simp] theorem put_nm (i : Nat) (d : D) (env : En) : (Tg.nm i).put d env = .ok (env.set i (some d)) := by simp only [Tg.put]
@[simp] theorem put_tu (ts : Tgs) (ds : List D) (env : En) : (Tg.tu ts).put (.tuple ds) env = ts.put ds env := by simp only [Tg.put]
@[simp] theorem puts_nil (env : En) : Tgs.nil.put [] env = .ok env := by simp only [Tgs.put]
@[simp] theorem puts_cons (t : Tg) (ts : Tgs) (d : D) (ds : List D) (env : En) : (Tgs.cons t ts).put (d :: ds) env = (t.put d env).bind fun e => ts.put ds e := by simp only [Tgs.put]
@[simp] theorem truth_bool (b : Bool) : truth (.bool b) = .ok b := rfl
@[simp] theorem truth_none : truth .none = .ok false := rfl
@[simp] theorem truth_int (i : Int) : truth (.int i) = .ok (i != 0) := rfl
@[simp] theorem truth_list (l : List D) : truth (.list l) = .ok (!l.isEmpty) := rfl
@[simp] theorem truth_tuple (l : List D) : truth (.tuple l) = .ok (!l.isEmpty) := rfl
@[simp] theorem truth_str (x : Str) : truth (.str x) = .ok (x.length != 0) := rfl
@[simp] theorem o2_add_i (i j : Int) : op2 .add (.int i) (.int j) = .ok (.int (i + j)) := rfl
@[simp] theorem o2_sub_i (i j : Int) : op2 .sub (.int i) (.int j) = .ok (.int (i - j)) := rfl
@[simp] theorem o2_lt_i (i j : Int) : op2 .lt (.int i) (.int j) = .ok (.bool (decide (i < j))) := rfl
@[simp] theorem o2_le_i (i j : Int) : op2 .le (.int i) (.int j) = .ok (.bool (decide (i ≤ j))) := rfl
@[simp] theorem o2_gt_i (i j : Int) : op2 .gt (.int i) (.int j) = .ok (.bool (decide (j < i))) := rfl
@[simp] theorem o2_ge_i (i j : Int) : op2 .ge (.int i) (.int j) = .ok (.bool (decide (j ≤ i))) := rfl
theorem o2_mul {i j : Int} (h : mulOk i j = true) : op2 .mul (.int i) (.int j) = .ok (.int (i * j)) := by
  show (if mulOk i j then Res.ok (PyData.int (i * j)) else .bad) = _
  rw [if_pos h]
theorem o2_mod {i j : Int} (h : 0 < j) : op2 .mod (.int i) (.int j) = .ok (.int (i % j)) := by
  show (if decide (0 < j) then Res.ok (PyData.int (i % j)) else .bad) = _
  rw [if_pos (decide_eq_true h)]
theorem mulOk_l {i j : Int} (h : -1000000 < i) (h' : i < 1000000) : mulOk i j = true := decide_eq_true (.inl ⟨by omega, by omega⟩)
theorem mulOk_r {i j : Int} (h : -1000000 < j) (h' : j < 1000000) : mulOk i j = true := decide_eq_true (.inr ⟨by omega, by omega⟩)
@[simp] theorem o2_is_n (d : D) : op2 .is d .none = .ok (.bool (isNone d)) := rfl
@[simp] theorem o2_is_b (d : D) (b : Bool) : op2 .is d (.bool b) = .ok (.bool (isBool b d)) := rfl
@[simp] theorem o2_isnot_n (d : D) : op2 .isnot d .none = .ok (.bool (!isNone d)) := rfl
@[simp] theorem o2_isnot_b (d : D) (b : Bool) : op2 .isnot d (.bool b) = .ok (.bool (!isBool b d)) := rfl
@[simp] theorem isBool_b (b c : Bool) : isBool b (.bool c) = (c == b) := rfl
@[simp] theorem isNone_n : isNone .none = true := rfl
@[simp] theorem isNone_b (b : Bool) : isNone (.bool b) = false := rfl
@[simp] theorem isNone_i (i : Int) : isNone (.int i) = false := rfl
@[simp] theorem isNone_s (x : Str) : isNone (.str x) = false := rfl
@[simp] theorem isNone_t (l : List D) : isNone (.tuple l) = false := rfl
@[simp] theorem isNone_l (l : List D) : isNone (.list l) = false := rfl
theorem min0 (n : Nat) : decide (min 0 n ≤ 60) = true := by simp
theorem eqOk_l {a b : D} (h : a.depth = 0) (ha : noDict a = true) (hb : noDict b = true) : eqOk a b = true := by
  unfold eqOk; rw [ha, hb, h]; simp
theorem eqOk_r {a b : D} (h : b.depth = 0) (ha : noDict a = true) (hb : noDict b = true) : eqOk a b = true := by
  unfold eqOk; rw [ha, hb, h]; simp
theorem o2_eq {a b : D} (h : eqOk a b = true) : op2 .eq a b = .ok (.bool (PyData.eqv a b)) := by
  show (if eqOk a b then Res.ok (PyData.bool (PyData.eqv a b)) else .bad) = _
  rw [if_pos h]
theorem o2_ne {a b : D} (h : eqOk a b = true) : op2 .ne a b = .ok (.bool (!PyData.eqv a b)) := by
  show (if eqOk a b then Res.ok (PyData.bool (!PyData.eqv a b)) else .bad) = _
  rw [if_pos h]
@[simp] theorem o2_eq_i (i j : Int) : op2 .eq (.int i) (.int j) = .ok (.bool (i == j)) := by
  rw [o2_eq (eqOk_l (by simp [PyData.depth]) (by simp [noDict]) (by simp [noDict]))]; simp [PyData.eqv]
@[simp] theorem o2_eq_s (x y : Str) : op2 .eq (.str x) (.str y) = .ok (.bool (x == y)) := by
  rw [o2_eq (eqOk_l (by simp [PyData.depth]) (by simp [noDict]) (by simp [noDict]))]; simp [PyData.eqv]
@[simp] theorem o2_eq_ns (y : Str) : op2 .eq .none (.str y) = .ok (.bool false) := by
  rw [o2_eq (eqOk_l (by simp [PyData.depth]) (by simp [noDict]) (by simp [noDict]))]; simp [PyData.eqv]
@[simp] theorem o2_eq_b (x y : Bool) : op2 .eq (.bool x) (.bool y) = .ok (.bool (x == y)) := by
  rw [o2_eq (eqOk_l (by simp [PyData.depth]) (by simp [noDict]) (by simp [noDict]))]; simp [PyData.eqv]
@[simp] theorem o2_ne_b (x y : Bool) : op2 .ne (.bool x) (.bool y) = .ok (.bool (!(x == y))) := by
  rw [o2_ne (eqOk_l (by simp [PyData.depth]) (by simp [noDict]) (by simp [noDict]))]; simp [PyData.eqv]
theorem o2_idx_t {xs : List D} {i : Int} {d : D} (h : L2.atI xs i = some d) : op2 .idx (.tuple xs) (.int i) = .ok d := by
  show (match L2.atI xs i with | some d => Res.ok d | none => .bad) = _
  rw [h]
theorem o2_idx_s {x : Str} {i : Int} {c : Nat} (h : L2.atI x.cps.toList i = some c) : op2 .idx (.str x) (.int i) = .ok (.str ⟨#[c]⟩) := by
  show (match L2.atI x.cps.toList i with | some c => Res.ok (PyData.str ⟨#[c]⟩) | none => .bad) = _
  rw [h]
theorem o2_idx_scr {xs : List D} {i : Int} {d : D} (h : L2.atI xs i = some d) : op2 .idx (scrD xs) (.int i) = .ok d := by
  show (match L2.atI xs i with | some d => Res.ok d | none => .bad) = _
  rw [h]
@[simp] theorem o2_idx_t0 (a : D) (l : List D) : op2 .idx (.tuple (a :: l)) (.int 0) = .ok a := o2_idx_t (atI_nat (j := 0) rfl)
@[simp] theorem o2_idx_t1 (a b : D) (l : List D) : op2 .idx (.tuple (a :: b :: l)) (.int 1) = .ok b := o2_idx_t (atI_nat (j := 1) rfl)
@[simp] theorem o1_len_scr (xs : List D) : op1 .len (scrD xs) = .ok (.int xs.length) := rfl
@[simp] theorem o1_len_t (xs : List D) : op1 .len (.tuple xs) = .ok (.int xs.length) := rfl
@[simp] theorem o1_len_l (xs : List D) : op1 .len (.list xs) = .ok (.int xs.length) := rfl
@[simp] theorem o1_len_s (x : Str) : op1 .len (.str x) = .ok (.int x.length) := rfl
@[simp] theorem o1_not_b (b : Bool) : op1 .not (.bool b) = .ok (.bool (!b)) := rfl
theorem atI_in {α : Type} {xs : List α} {i : Int} (h0 : 0 ≤ i) (h1 : i < xs.length) : ∃ x, x ∈ xs ∧ L2.atI xs i = some x ∧ xs[i.toNat]? = some x := by
  have hi : i.toNat < xs.length := by omega
  refine ⟨xs[i.toNat], List.getElem_mem hi, ?_, by simp⟩
  have e : ((i.toNat : Nat) : Int) = i := by omega
  have := atI_nat (xs := xs) (j := i.toNat) (v := xs[i.toNat]) (by simp [hi])
  rw [e] at this
  exact this
/-- each item by a function -/
theorem eachD_map {f : D → Res (Option D)} {g : D → D} : ∀ {ds : List D}, (∀ d ∈ ds, f d = .ok (some (g d))) → eachD f ds = .ok (ds.map g)
  | [], _ => rfl
  | d :: ds, h => by
    simp only [eachD, h d (by simp), bind_ok, eachD_map fun x hx => h x (List.mem_cons_of_mem _ hx), List.map_cons]
theorem comp_nm {ρ : Nat → List D → Res D} {i : Nat} {it : IT} {elt : IE} {env : En} {ds : List D} {g : D → D} (hi : evalIT ρ it env = .ok ds) (h : ∀ d ∈ ds, evalE ρ elt (env.set i (some d)) = .ok (g d)) : evalE ρ (.comp (.nm i) it elt) env = .ok (.list (ds.map g)) := by
  simp only [evalE, hi, bind_ok, put_nm]
  rw [eachD_map (g := g) fun d hd => by rw [h d hd]; rfl]
  rfl
/-- a loop by what holds between its turns -/
theorem forD_inv {f : D → En → Res Fl} (P : En → Prop) : ∀ {ds : List D} {env : En}, (∀ d ∈ ds, ∀ env, P env → ∃ e, f d env = .ok (.next e) ∧ P e) → P env → ∃ e, forD f ds env = .ok (.next e) ∧ P e
  | [], env, _, p => ⟨env, rfl, p⟩
  | d :: ds, env, h, p => by
    obtain ⟨e, e1, p1⟩ := h d (by simp) env p
    obtain ⟨e', e2, p2⟩ := forD_inv P (fun x hx => h x (List.mem_cons_of_mem _ hx)) p1
    exact ⟨e', by simp only [forD, e1, bind_ok, Fl.go_next, e2], p2⟩
theorem mem_range : ∀ {n : Nat} {lo : Int} {d : D}, d ∈ rangeD lo n → ∃ k : Int, d = .int k ∧ lo ≤ k ∧ k < lo + n
  | 0, _, _, h => by simp [rangeD] at h
  | n + 1, lo, d, h => by
    simp only [rangeD, List.mem_cons] at h
    rcases h with rfl | h
    · exact ⟨lo, rfl, by omega, by omega⟩
    · obtain ⟨k, h1, h2, h3⟩ := mem_range (n := n) (lo := lo + 1) h
      exact ⟨k, h1, by omega, by push_cast; omega⟩
theorem rng1_ok {n : Int} (h : 0 ≤ n) (h' : n ≤ 1000000) : rng1D (.int n) = .ok (rangeD 0 n.toNat) := by
  show (if decide (-(2 ^ 62) ≤ n ∧ n ≤ (sizeLine : Int)) then Res.ok (rangeD 0 n.toNat) else .bad) = _
  rw [if_pos (decide_eq_true ⟨by omega, by rw [sizeLine_eq]; omega⟩)]
theorem seq_next {s : IS} {ss : ISs} {env e : En} {r : Res Fl} (h : evalS ρ s env = .ok (.next e)) (h' : evalSs ρ ss e = r) : evalSs ρ (.cons s ss) env = r := by
  simp only [evalSs, h, bind_ok, Fl.go_next, h']
theorem call_of {defs : Nat → Option FDef} {f : Nat} {fd : FDef} (h : defs f = some fd) (n : Nat) (ds : List D) : callF defs (n + 1) f ds = runF (callF defs n) fd ds := by
  simp only [callF, h]
theorem all_map_b (l : List D) (g : D → Bool) : boolsD (l.map fun d => .bool (g d)) = some (l.map g) := by
  induction l with
  | nil => rfl
  | cons a l ih => simp only [List.map_cons, boolsD, ih, Option.map_some]
theorem o1_all (l : List D) (g : D → Bool) : op1 .all (.list (l.map fun d => .bool (g d))) = .ok (.bool (l.all g)) := by
  show (match boolsD (l.map fun d => PyData.bool (g d)) with | some bs => Res.ok (PyData.bool (bs.all id)) | none => .bad) = _
  rw [all_map_b]
  simp [List.all_map]
theorem o1_any (l : List D) (g : D → Bool) : op1 .any (.list (l.map fun d => .bool (g d))) = .ok (.bool (l.any g)) := by
  show (match boolsD (l.map fun d => PyData.bool (g d)) with | some bs => Res.ok (PyData.bool (bs.any id)) | none => .bad) = _
  rw [all_map_b]
  simp [List.any_map]
theorem comp_any {t : Tg} {it : IT} {elt : IE} {env : En} {ds : List D} {g : D → D} (hi : evalIT ρ it env = .ok ds) (h : ∀ d ∈ ds, ∃ e, t.put d env = .ok e ∧ evalE ρ elt e = .ok (g d)) : evalE ρ (.comp t it elt) env = .ok (.list (ds.map g)) := by
  simp only [evalE, hi, bind_ok]
  rw [eachD_map (g := g) fun d hd => by
    obtain ⟨e, h1, h2⟩ := h d hd
    simp only [h1, h2, bind_ok]]
  rfl
theorem eachD_filter {f : D → Res (Option D)} {g : D → D} {p : D → Bool} : ∀ {ds : List D}, (∀ d ∈ ds, f d = .ok (if p d then some (g d) else none)) → eachD f ds = .ok ((ds.filter p).map g)
  | [], _ => rfl
  | d :: ds, h => by
    simp only [eachD, h d (by simp), bind_ok, eachD_filter fun x hx => h x (List.mem_cons_of_mem _ hx), List.filter_cons]
    cases p d <;> rfl
theorem compIf_any {t : Tg} {it : IT} {c elt : IE} {env : En} {ds : List D} {g : D → D} {p : D → Bool} (hi : evalIT ρ it env = .ok ds) (h : ∀ d ∈ ds, ∃ e, t.put d env = .ok e ∧ (evalE ρ c e).bind truth = .ok (p d) ∧ (p d = true → evalE ρ elt e = .ok (g d))) : evalE ρ (.compIf t it c elt) env = .ok (.list ((ds.filter p).map g)) := by
  simp only [evalE, hi, bind_ok]
  rw [eachD_filter (g := g) (p := p) fun d hd => by
    obtain ⟨e, h1, h2, h3⟩ := h d hd
    obtain ⟨y, h4, h5⟩ := bind_split h2
    simp only [h1, h4, h5, bind_ok]
    cases q : p d with
    | true => simp only [if_true, h3 q, bind_ok]
    | false => simp]
  rfl
theorem compK_any {i : Nat} {a elt : IE} {env : En} {u : D} {ds : List D} {g : D → D} (ha : evalE ρ a env = .ok u) (hk : keysOf u = .ok ds) (h : ∀ d ∈ ds, evalE ρ elt (env.set i (some d)) = .ok (g d)) : evalE ρ (.compK i a elt) env = .ok (.list (ds.map g)) := by
  simp only [evalE, ha, hk, bind_ok]
  rw [eachD_map (g := g) fun d hd => by rw [h d hd]; rfl]
  rfl
/-- a loop that ends with r at the first one that is not p -/
theorem forD_find {f : D → En → Res Fl} {P : En → Prop} {p : D → Bool} {r : D} : ∀ {ds : List D} {env : En}, (∀ d ∈ ds, ∀ env, P env → (p d = true → ∃ e, f d env = .ok (.next e) ∧ P e) ∧ (p d = false → f d env = .ok (.ret r))) → P env →
    (ds.all p = true → ∃ e, forD f ds env = .ok (.next e) ∧ P e) ∧ (ds.all p = false → forD f ds env = .ok (.ret r))
  | [], env, _, h0 => ⟨fun _ => ⟨env, rfl, h0⟩, fun h => nomatch h⟩
  | d :: ds, env, h, h0 => by
    obtain ⟨h1, h2⟩ := h d (by simp) env h0
    rw [List.all_cons]
    cases q : p d with
    | true =>
      obtain ⟨e, e1, p1⟩ := h1 q
      obtain ⟨g1, g2⟩ := forD_find (ds := ds) (fun x hx => h x (List.mem_cons_of_mem _ hx)) p1
      simp only [Bool.true_and, forD, e1, bind_ok, Fl.go_next]
      exact ⟨g1, g2⟩
    | false =>
      simp only [Bool.false_and, forD, h2 q, bind_ok, Fl.go_ret]
      exact ⟨fun h => (nomatch (show false = true from h)), fun _ => trivial⟩
theorem o2_in {a : D} {ds : List D} (h : inOk a ds = true) : op2 .in_ a (.tuple ds) = .ok (.bool (ds.any fun z => PyData.eqv z a)) := by
  show (inSeq a ds).bind (fun t => Res.ok (PyData.bool t)) = _
  unfold inSeq
  rw [if_pos h]; rfl
theorem o2_notin {a : D} {ds : List D} (h : inOk a ds = true) : op2 .notin a (.tuple ds) = .ok (.bool (!ds.any fun z => PyData.eqv z a)) := by
  show (inSeq a ds).bind (fun t => Res.ok (PyData.bool (!t))) = _
  unfold inSeq
  rw [if_pos h]; rfl
theorem o2_in_sign (c : Nat) (y : Str) : op2 .in_ (.str ⟨#[c]⟩) (.str y) = .ok (.bool (decide (c ∈ y.cps.toList))) := rfl
theorem fits_of {n : Nat} (h : n ≤ 1000000) : fits n = true := decide_eq_true (by rw [sizeLine_eq]; omega)
theorem o2_add_t {xs ys : List D} (h : xs.length + ys.length ≤ 100000) : op2 .add (.tuple xs) (.tuple ys) = .ok (.tuple (xs ++ ys)) := by
  show (if fits (xs.length + ys.length) then Res.ok (PyData.tuple (xs ++ ys)) else .bad) = _
  rw [if_pos (fits_of (by omega))]
theorem o2_add_l {xs ys : List D} (h : xs.length + ys.length ≤ 100000) : op2 .add (.list xs) (.list ys) = .ok (.list (xs ++ ys)) := by
  show (if fits (xs.length + ys.length) then Res.ok (PyData.list (xs ++ ys)) else .bad) = _
  rw [if_pos (fits_of (by omega))]
theorem o2_add_s {x y : Str} (h : x.length + y.length ≤ 100000) : op2 .add (.str x) (.str y) = .ok (.str (x ++ y)) := by
  show (if fits (x.length + y.length) then Res.ok (PyData.str (x ++ y)) else .bad) = _
  rw [if_pos (fits_of (by omega))]
theorem o2_idx_l {xs : List D} {i : Int} {d : D} (h : L2.atI xs i = some d) : op2 .idx (.list xs) (.int i) = .ok d := by
  show (match L2.atI xs i with | some d => Res.ok d | none => .bad) = _
  rw [h]
@[simp] theorem o1_tuple_l (xs : List D) : op1 .tuple (.list xs) = .ok (.tuple xs) := rfl
@[simp] theorem o1_list_t (xs : List D) : op1 .list (.tuple xs) = .ok (.list xs) := rfl
@[simp] theorem o1_list_l (xs : List D) : op1 .list (.list xs) = .ok (.list xs) := rfl
@[simp] theorem o1_rev_t (xs : List D) : op1 .rev (.tuple xs) = .ok (.tuple xs.reverse) := rfl
@[simp] theorem o1_neg_i (i : Int) : op1 .neg (.int i) = .ok (.int (-i)) := rfl
@[simp] theorem o1_int_b (b : Bool) : op1 .int (.bool b) = .ok (.int (if b then 1 else 0)) := rfl
@[simp] theorem o3_sl_t (xs : List D) (a b : D) {l m : Option Int} (h1 : bound a = some l) (h2 : bound b = some m) : op3 .sl (.tuple xs) a b = .ok (.tuple (cutL xs l m)) := by
  show slD _ _ _ = _
  unfold slD; rw [h1, h2]; rfl
@[simp] theorem o3_sl_l (xs : List D) (a b : D) {l m : Option Int} (h1 : bound a = some l) (h2 : bound b = some m) : op3 .sl (.list xs) a b = .ok (.list (cutL xs l m)) := by
  show slD _ _ _ = _
  unfold slD; rw [h1, h2]; rfl
@[simp] theorem o3_sl_s (x : Str) (a b : D) {l m : Option Int} (h1 : bound a = some l) (h2 : bound b = some m) : op3 .sl (.str x) a b = .ok (.str (cutS x l m)) := by
  show slD _ _ _ = _
  unfold slD; rw [h1, h2]; rfl
@[simp] theorem bound_n : bound .none = some none := rfl
@[simp] theorem bound_i (i : Int) : bound (.int i) = some (some i) := rfl
theorem cut_to {α : Type} (xs : List α) (i : Int) (h : 0 ≤ i) : cutL xs none (some i) = xs.take i.toNat := by
  unfold cutL HT.sIx
  simp only [if_neg (show ¬ i < 0 by omega), List.drop_zero, Nat.sub_zero]
  by_cases hi : i.toNat ≤ xs.length
  · rw [Nat.min_eq_left hi]
  · rw [Nat.min_eq_right (by omega), List.take_of_length_le (Nat.le_refl _), List.take_of_length_le (by omega)]
theorem cut_from {α : Type} (xs : List α) (i : Int) (h : 0 ≤ i) : cutL xs (some i) none = xs.drop i.toNat := by
  unfold cutL HT.sIx
  simp only [if_neg (show ¬ i < 0 by omega)]
  by_cases hi : i.toNat ≤ xs.length
  · rw [Nat.min_eq_left hi, List.take_of_length_le (by rw [List.length_drop]; omega)]
  · rw [Nat.min_eq_right (by omega), List.drop_of_length_le (Nat.le_refl _), List.drop_of_length_le (by omega)]
    simp
theorem at_nat {α : Type} {xs : List α} {i : Int} {x : α} (h : 0 ≤ i) (e : xs[i.toNat]? = some x) : L2.atI xs i = some x := by
  have h2 : ((i.toNat : Nat) : Int) = i := by omega
  have := atI_nat (xs := xs) (j := i.toNat) (v := x) e
  rw [h2] at this
  exact this
@[simp] theorem isi_s (x : Str) (t : Ty) : isiD t (.str x) = .ok (.bool (isTy (.str x) t)) := rfl
@[simp] theorem isi_i (x : Int) (t : Ty) : isiD t (.int x) = .ok (.bool (isTy (.int x) t)) := rfl
@[simp] theorem isi_b (x : Bool) (t : Ty) : isiD t (.bool x) = .ok (.bool (isTy (.bool x) t)) := rfl
@[simp] theorem isi_n (t : Ty) : isiD t .none = .ok (.bool (isTy .none t)) := rfl
@[simp] theorem isi_t (x : List D) (t : Ty) : isiD t (.tuple x) = .ok (.bool (isTy (.tuple x) t)) := rfl
@[simp] theorem isi_l (x : List D) (t : Ty) : isiD t (.list x) = .ok (.bool (isTy (.list x) t)) := rfl
end
end Tq

namespace Tq
open PySem L2 Res
instance : Inhabited PF := ⟨⟨0, 0, Str.empty, [], [], []⟩⟩
def w_LETTERS : Str := ⟨#[76, 69, 84, 84, 69, 82, 83]⟩
def w_SORTS : Str := ⟨#[83, 79, 82, 84, 83]⟩
def w_truth : Str := ⟨#[116, 114, 117, 116, 104]⟩
def w_whole : Str := ⟨#[119, 104, 111, 108, 101]⟩
def w_text : Str := ⟨#[116, 101, 120, 116]⟩
def w_called : Str := ⟨#[99, 97, 108, 108, 101, 100]⟩
def w_wider : Str := ⟨#[119, 105, 100, 101, 114]⟩
def w_moved : Str := ⟨#[109, 111, 118, 101, 100]⟩
def s_32_33_34_35_36_38_39_40_41_42_43_44_l94 : Str := ⟨#[32, 33, 34, 35, 36, 38, 39, 40, 41, 42, 43, 44, 45, 46, 47, 48, 49, 50, 51, 52, 53, 54, 55, 56, 57, 58, 59, 60, 61, 62, 63, 64, 65, 66, 67, 68, 69, 70, 71, 72, 73, 74, 75, 76, 77, 78, 79, 80, 81, 82, 83, 84, 85, 86, 87, 88, 89, 90, 91, 92, 93, 94, 95, 96, 97, 98, 99, 100, 101, 102, 103, 104, 105, 106, 107, 108, 109, 110, 111, 112, 113, 114, 115, 116, 117, 118, 119, 120, 121, 122, 123, 124, 125, 126]⟩
def w_B : Str := ⟨#[66]⟩
def w_ab : Str := ⟨#[97, 98]⟩
def w_b : Str := ⟨#[98]⟩
def w_a : Str := ⟨#[97]⟩
def s_e : Str := ⟨#[]⟩
def w_xyzxyz : Str := ⟨#[120, 121, 122, 120, 121, 122]⟩
def w_long : Str := ⟨#[108, 111, 110, 103]⟩
def w_e : Str := ⟨#[101]⟩
def w_d : Str := ⟨#[100]⟩
def w_c : Str := ⟨#[99]⟩
def w_r : Str := ⟨#[114]⟩
def w_q : Str := ⟨#[113]⟩
def w_p : Str := ⟨#[112]⟩
def w_yet : Str := ⟨#[121, 101, 116]⟩
def w_newone : Str := ⟨#[110, 101, 119, 111, 110, 101]⟩
def w_brandx : Str := ⟨#[98, 114, 97, 110, 100, 120]⟩
def w_aaaaaa : Str := ⟨#[97, 97, 97, 97, 97, 97]⟩
def w_fresh : Str := ⟨#[102, 114, 101, 115, 104]⟩
def w_qq : Str := ⟨#[113, 113]⟩
def w_yy : Str := ⟨#[121, 121]⟩
def w_zz : Str := ⟨#[122, 122]⟩
def w_pp : Str := ⟨#[112, 112]⟩
def w_aa : Str := ⟨#[97, 97]⟩
def w_gappy : Str := ⟨#[103, 97, 112, 112, 121]⟩
def w_abcdefghijklmnopqrstuvwxyz : Str := ⟨#[97, 98, 99, 100, 101, 102, 103, 104, 105, 106, 107, 108, 109, 110, 111, 112, 113, 114, 115, 116, 117, 118, 119, 120, 121, 122]⟩
def w_A : Str := ⟨#[65]⟩
def w_add : Str := ⟨#[97, 100, 100]⟩
def w_and : Str := ⟨#[97, 110, 100]⟩
def w_any : Str := ⟨#[97, 110, 121]⟩
def w_below : Str := ⟨#[98, 101, 108, 111, 119]⟩
def w_both : Str := ⟨#[98, 111, 116, 104]⟩
def w_col : Str := ⟨#[99, 111, 108]⟩
def w_count : Str := ⟨#[99, 111, 117, 110, 116]⟩
def w_down : Str := ⟨#[100, 111, 119, 110]⟩
def w_else : Str := ⟨#[101, 108, 115, 101]⟩
def w_every : Str := ⟨#[101, 118, 101, 114, 121]⟩
def w_first : Str := ⟨#[102, 105, 114, 115, 116]⟩
def w_gap : Str := ⟨#[103, 97, 112]⟩
def w_glue : Str := ⟨#[103, 108, 117, 101]⟩
def w_group : Str := ⟨#[103, 114, 111, 117, 112]⟩
def w_if : Str := ⟨#[105, 102]⟩
def w_join : Str := ⟨#[106, 111, 105, 110]⟩
def w_lacks : Str := ⟨#[108, 97, 99, 107, 115]⟩
def w_least : Str := ⟨#[108, 101, 97, 115, 116]⟩
def w_left : Str := ⟨#[108, 101, 102, 116]⟩
def w_less : Str := ⟨#[108, 101, 115, 115]⟩
def w_m : Str := ⟨#[109]⟩
def w_minus : Str := ⟨#[109, 105, 110, 117, 115]⟩
def w_most : Str := ⟨#[109, 111, 115, 116]⟩
def w_n : Str := ⟨#[110]⟩
def w_name : Str := ⟨#[110, 97, 109, 101]⟩
def w_new : Str := ⟨#[110, 101, 119]⟩
def w_newer : Str := ⟨#[110, 101, 119, 101, 114]⟩
def w_newest : Str := ⟨#[110, 101, 119, 101, 115, 116]⟩
def w_not : Str := ⟨#[110, 111, 116]⟩
def w_o : Str := ⟨#[111]⟩
def w_once : Str := ⟨#[111, 110, 99, 101]⟩
def w_or : Str := ⟨#[111, 114]⟩
def w_plus : Str := ⟨#[112, 108, 117, 115]⟩
def w_s : Str := ⟨#[115]⟩
def w_same : Str := ⟨#[115, 97, 109, 101]⟩
def w_size : Str := ⟨#[115, 105, 122, 101]⟩
def w_sort : Str := ⟨#[115, 111, 114, 116]⟩
def w_sum : Str := ⟨#[115, 117, 109]⟩
def w_t : Str := ⟨#[116]⟩
def w_table : Str := ⟨#[116, 97, 98, 108, 101]⟩
def w_take : Str := ⟨#[116, 97, 107, 101]⟩
def w_times : Str := ⟨#[116, 105, 109, 101, 115]⟩
def w_up : Str := ⟨#[117, 112]⟩
def w_v : Str := ⟨#[118]⟩
def w_value : Str := ⟨#[118, 97, 108, 117, 101]⟩
def w_where : Str := ⟨#[119, 104, 101, 114, 101]⟩
def w_x : Str := ⟨#[120]⟩
def w_za : Str := ⟨#[122, 97]⟩
def w_zb : Str := ⟨#[122, 98]⟩
def w_zc : Str := ⟨#[122, 99]⟩
def g_SORTS : D := (.tuple [(.str w_whole), (.str w_text), (.str w_truth)])
def g_LETTERS : D := (.str w_abcdefghijklmnopqrstuvwxyz)
def GL : List (Str × D) := [(w_SORTS, g_SORTS), (w_LETTERS, g_LETTERS)]
namespace F
abbrev is_name : Nat := 0
abbrev is_sort : Nat := 1
abbrev sort_of : Nat := 2
abbrev is_kind : Nat := 3
abbrev is_of : Nat := 4
abbrev are_unlike : Nat := 5
abbrev are_tuples : Nat := 6
abbrev is_heading : Nat := 7
abbrev is_row : Nat := 8
abbrev is_table : Nat := 9
abbrev is_house : Nat := 10
abbrev called : Nat := 11
abbrev changed_heading : Nat := 12
abbrev changed_rows : Nat := 13
abbrev changed_heads : Nat := 14
abbrev changed : Nat := 15
abbrev law_cell : Nat := 16
abbrev law_mix : Nat := 17
abbrev law_text : Nat := 18
abbrev law_value : Nat := 19
abbrev law_kind : Nat := 20
abbrev law_heading : Nat := 21
abbrev law_rows : Nat := 22
abbrev law_house : Nat := 23
abbrev law_same : Nat := 24
abbrev law_change : Nat := 25
abbrev law_changed : Nat := 26
abbrev law : Nat := 27
end F
def c_is_name_0 : IE := .comp (.nm 1) (.seq (.var 0)) (.o2 .in_ (.var 1) (.glob w_LETTERS g_LETTERS))
def f_is_name : FDef := { n := 2, arity := 1, body :=
  (.cons (.ret (.and_ (.isi (.var 0) .str) (.and_ (.chain .le .le (.int 1) (.o1 .len (.var 0)) (.int 6)) (.o1 .all c_is_name_0)))) .nil) }
def f_is_sort : FDef := { n := 1, arity := 1, body :=
  (.cons (.ret (.and_ (.isi (.var 0) .str) (.o2 .in_ (.var 0) (.glob w_SORTS g_SORTS)))) .nil) }
def f_sort_of : FDef := { n := 1, arity := 1, body :=
  (.cons (.if_ (.isi (.var 0) .bool) (.cons (.ret (.str w_truth)) .nil) .nil) (.cons (.if_ (.isi (.var 0) .int) (.cons (.ret (.str w_whole)) .nil) .nil) (.cons (.if_ (.isi (.var 0) .str) (.cons (.ret (.str w_text)) .nil) .nil) (.cons (.ret .non) .nil)))) }
def f_is_kind : FDef := { n := 1, arity := 1, body :=
  (.cons (.ret (.and_ (.isi (.var 0) .tuple) (.and_ (.o2 .eq (.o1 .len (.var 0)) (.int 2)) (.and_ (.call F.is_sort (.cons (.o2 .idx (.var 0) (.int 0)) .nil)) (.isi (.o2 .idx (.var 0) (.int 1)) .bool))))) .nil) }
def f_is_of : FDef := { n := 2, arity := 2, body :=
  (.cons (.if_ (.o2 .is (.var 0) .non) (.cons (.ret (.o2 .idx (.var 1) (.int 1))) .nil) .nil) (.cons (.ret (.o2 .eq (.call F.sort_of (.cons (.var 0) .nil)) (.o2 .idx (.var 1) (.int 0)))) .nil)) }
def f_are_unlike : FDef := { n := 1, arity := 1, body :=
  (.cons (.ret (.o2 .eq (.o1 .lenSet (.var 0)) (.o1 .len (.var 0)))) .nil) }
def c_are_tuples_0 : IE := .comp (.nm 2) (.seq (.var 0)) (.and_ (.isi (.var 2) .tuple) (.o2 .eq (.o1 .len (.var 2)) (.var 1)))
def f_are_tuples : FDef := { n := 3, arity := 2, body :=
  (.cons (.ret (.and_ (.isi (.var 0) .tuple) (.o1 .all c_are_tuples_0))) .nil) }
def c_is_heading_0 : IE := .comp (.tu (.cons (.nm 1) (.cons (.nm 2) .nil))) (.seq (.var 0)) (.var 1)
def c_is_heading_1 : IE := .comp (.tu (.cons (.nm 1) (.cons (.nm 2) .nil))) (.seq (.var 0)) (.and_ (.call F.is_name (.cons (.var 1) .nil)) (.call F.is_kind (.cons (.var 2) .nil)))
def f_is_heading : FDef := { n := 3, arity := 1, body :=
  (.cons (.if_ (.or_ (.o1 .not (.call F.are_tuples (.cons (.var 0) (.cons (.int 2) .nil)))) (.o2 .eq (.o1 .len (.var 0)) (.int 0))) (.cons (.ret (.bl false)) .nil) .nil) (.cons (.ret (.and_ (.o1 .all c_is_heading_1) (.call F.are_unlike (.cons c_is_heading_0 .nil)))) .nil)) }
def c_is_row_0 : IE := .comp (.tu (.cons (.nm 2) (.cons (.nm 3) .nil))) (.zip (.var 0) (.var 1)) (.call F.is_of (.cons (.var 2) (.cons (.o2 .idx (.var 3) (.int 1)) .nil)))
def f_is_row : FDef := { n := 4, arity := 2, body :=
  (.cons (.if_ (.or_ (.o1 .not (.isi (.var 0) .tuple)) (.o2 .ne (.o1 .len (.var 0)) (.o1 .len (.var 1)))) (.cons (.ret (.bl false)) .nil) .nil) (.cons (.ret (.o1 .all c_is_row_0)) .nil)) }
def c_is_table_0 : IE := .comp (.nm 1) (.seq (.o2 .idx (.var 0) (.int 1))) (.call F.is_row (.cons (.var 1) (.cons (.o2 .idx (.var 0) (.int 0)) .nil)))
def f_is_table : FDef := { n := 2, arity := 1, body :=
  (.cons (.if_ (.or_ (.o1 .not (.isi (.var 0) .tuple)) (.or_ (.o2 .ne (.o1 .len (.var 0)) (.int 2)) (.or_ (.o1 .not (.call F.is_heading (.cons (.o2 .idx (.var 0) (.int 0)) .nil))) (.o1 .not (.isi (.o2 .idx (.var 0) (.int 1)) .tuple))))) (.cons (.ret (.bl false)) .nil) .nil) (.cons (.ret (.o1 .all c_is_table_0)) .nil)) }
def c_is_house_0 : IE := .comp (.tu (.cons (.nm 2) (.cons (.nm 3) .nil))) (.seq (.var 0)) (.and_ (.call F.is_name (.cons (.var 2) .nil)) (.call F.is_table (.cons (.var 3) .nil)))
def c_is_house_1 : IE := .comp (.nm 1) (.rng2 (.int 1) (.o1 .len (.var 0))) (.o2 .lt (.o2 .idx (.o2 .idx (.var 0) (.o2 .sub (.var 1) (.int 1))) (.int 0)) (.o2 .idx (.o2 .idx (.var 0) (.var 1)) (.int 0)))
def f_is_house : FDef := { n := 4, arity := 1, body :=
  (.cons (.if_ (.or_ (.o1 .not (.call F.are_tuples (.cons (.var 0) (.cons (.int 2) .nil)))) (.o1 .not (.o1 .all c_is_house_0))) (.cons (.ret (.bl false)) .nil) .nil) (.cons (.ret (.o1 .all c_is_house_1)) .nil)) }
def f_called : FDef := { n := 3, arity := 3, body :=
  (.cons (.if_ (.o2 .eq (.var 0) (.var 1)) (.cons (.ret (.var 2)) .nil) .nil) (.cons (.ret (.var 0)) .nil)) }
def c_changed_heading_0 : IE := .comp (.tu (.cons (.nm 2) (.cons (.nm 3) .nil))) (.seq (.var 0)) (.tup (.cons (.call F.called (.cons (.var 2) (.cons (.o2 .idx (.var 1) (.int 2)) (.cons (.o2 .idx (.var 1) (.int 3)) .nil)))) (.cons (.var 3) .nil)))
def c_changed_heading_1 : IE := .comp (.tu (.cons (.nm 2) (.cons (.nm 3) .nil))) (.seq (.var 0)) (.tup (.cons (.var 2) (.cons (.tup (.cons (.o2 .idx (.var 3) (.int 0)) (.cons (.or_ (.o2 .idx (.var 3) (.int 1)) (.o2 .eq (.var 2) (.o2 .idx (.var 1) (.int 2)))) .nil))) .nil)))
def f_changed_heading : FDef := { n := 4, arity := 2, body :=
  (.cons (.if_ (.o2 .eq (.o2 .idx (.var 1) (.int 0)) (.str w_called)) (.cons (.ret (.o1 .tuple c_changed_heading_0)) .nil) .nil) (.cons (.if_ (.o2 .eq (.o2 .idx (.var 1) (.int 0)) (.str w_wider)) (.cons (.ret (.o2 .add (.var 0) (.tup (.cons (.tup (.cons (.o2 .idx (.var 1) (.int 2)) (.cons (.o2 .idx (.var 1) (.int 3)) .nil))) .nil)))) .nil) .nil) (.cons (.ret (.o1 .tuple c_changed_heading_1)) .nil))) }
def c_changed_rows_0 : IE := .comp (.nm 2) (.seq (.var 0)) (.o2 .add (.var 2) (.tup (.cons (.o2 .idx (.var 1) (.int 4)) .nil)))
def f_changed_rows : FDef := { n := 3, arity := 2, body :=
  (.cons (.if_ (.o2 .eq (.o2 .idx (.var 1) (.int 0)) (.str w_wider)) (.cons (.ret (.o1 .tuple c_changed_rows_0)) .nil) .nil) (.cons (.ret (.var 0)) .nil)) }
def c_changed_heads_0 : IE := .comp (.tu (.cons (.nm 3) (.cons (.nm 4) .nil))) (.seq (.var 0)) (.tup (.cons (.call F.called (.cons (.var 3) (.cons (.o2 .idx (.var 1) (.int 1)) (.cons (.o2 .idx (.var 1) (.int 2)) .nil)))) (.cons (.var 4) .nil)))
def b_changed_heads_1 : ISs := (.cons (.if_ (.o2 .eq (.var 3) (.o2 .idx (.var 1) (.int 1))) (.cons (.asg (.nm 4) (.call F.changed_heading (.cons (.var 4) (.cons (.var 1) .nil)))) .nil) .nil) (.cons (.app 2 (.tup (.cons (.var 3) (.cons (.var 4) .nil)))) .nil))
def l_changed_heads_2 : IS := .for_ (.tu (.cons (.nm 3) (.cons (.nm 4) .nil))) (.seq (.var 0)) b_changed_heads_1
def f_changed_heads : FDef := { n := 5, arity := 2, body :=
  (.cons (.if_ (.o2 .eq (.o2 .idx (.var 1) (.int 0)) (.str w_moved)) (.cons (.ret (.o1 .tuple (.o1 .sorted c_changed_heads_0))) .nil) .nil) (.cons (.mset 2 (.lst .nil)) (.cons l_changed_heads_2 (.cons (.ret (.o1 .tuple (.var 2))) .nil)))) }
def c_changed_0 : IE := .comp (.tu (.cons (.nm 4) (.cons (.nm 5) .nil))) (.seq (.var 0)) (.tup (.cons (.call F.called (.cons (.var 4) (.cons (.o2 .idx (.var 1) (.int 1)) (.cons (.o2 .idx (.var 1) (.int 2)) .nil)))) (.cons (.var 5) .nil)))
def c_changed_1 : IE := .comp (.nm 4) (.seq (.o1 .sorted (.var 3))) (.tup (.cons (.var 4) (.cons (.o2 .idx (.var 3) (.var 4)) .nil)))
def b_changed_2 : ISs := (.cons (.if_ (.o2 .eq (.var 4) (.o2 .idx (.var 1) (.int 1))) (.cons (.asg (.nm 5) (.tup (.cons (.call F.changed_heading (.cons (.o2 .idx (.var 5) (.int 0)) (.cons (.var 1) .nil))) (.cons (.call F.changed_rows (.cons (.o2 .idx (.var 5) (.int 1)) (.cons (.var 1) .nil))) .nil)))) .nil) .nil) (.cons (.app 2 (.tup (.cons (.var 4) (.cons (.var 5) .nil)))) .nil))
def l_changed_3 : IS := .for_ (.tu (.cons (.nm 4) (.cons (.nm 5) .nil))) (.seq (.var 0)) b_changed_2
def f_changed : FDef := { n := 6, arity := 2, body :=
  (.cons (.if_ (.o2 .eq (.o2 .idx (.var 1) (.int 0)) (.str w_moved)) (.cons (.asg (.nm 3) (.o1 .dict c_changed_0)) (.cons (.ret (.o1 .tuple c_changed_1)) .nil)) .nil) (.cons (.mset 2 (.lst .nil)) (.cons l_changed_3 (.cons (.ret (.o1 .tuple (.var 2))) .nil)))) }
def f_law_cell : FDef := { n := 2, arity := 2, body :=
  (.cons (.if_ (.o2 .lt (.var 1) (.o1 .len (.var 0))) (.cons (.ret (.o2 .idx (.var 0) (.var 1))) .nil) .nil) (.cons (.ret (.int 0)) .nil)) }
def f_law_mix : FDef := { n := 4, arity := 3, body :=
  (.cons (.asg (.nm 3) (.o2 .mod (.o2 .mul (.var 0) (.int 48271)) (.var 1))) (.cons (.ret (.o2 .mod (.o2 .mod (.o2 .mul (.var 3) (.o2 .add (.var 3) (.int 7))) (.var 1)) (.var 2))) .nil)) }
def c_law_text_0 : IE := .comp (.nm 2) (.rng1 (.call F.law_mix (.cons (.var 0) (.cons (.int 9949) (.cons (.int 5) .nil))))) (.o2 .idx (.var 1) (.call F.law_mix (.cons (.o2 .add (.var 0) (.o2 .mul (.int 7) (.var 2))) (.cons (.int 9967) (.cons (.o1 .len (.var 1)) .nil)))))
def f_law_text : FDef := { n := 3, arity := 1, body :=
  (.cons (.asg (.nm 1) (.str s_32_33_34_35_36_38_39_40_41_42_43_44_l94)) (.cons (.if_ (.o2 .eq (.o2 .mod (.var 0) (.int 3)) (.int 0)) (.cons (.ret (.o2 .idx (.tup (.cons (.str s_e) (.cons (.str w_a) (.cons (.str w_b) (.cons (.str w_ab) (.cons (.str w_B) .nil)))))) (.call F.law_mix (.cons (.var 0) (.cons (.int 9973) (.cons (.int 5) .nil)))))) .nil) .nil) (.cons (.ret (.o2 .join (.str s_e) c_law_text_0)) .nil))) }
def f_law_value : FDef := { n := 4, arity := 2, body :=
  (.cons (.asg (.tu (.cons (.nm 2) (.cons (.nm 3) .nil))) (.var 1)) (.cons (.if_ (.and_ (.var 3) (.o2 .eq (.call F.law_mix (.cons (.var 0) (.cons (.int 9941) (.cons (.int 3) .nil)))) (.int 0))) (.cons (.ret .non) .nil) .nil) (.cons (.if_ (.o2 .eq (.var 2) (.str w_whole)) (.cons (.ret (.o2 .sub (.call F.law_mix (.cons (.var 0) (.cons (.int 9931) (.cons (.int 7) .nil)))) (.int 3))) .nil) .nil) (.cons (.if_ (.o2 .eq (.var 2) (.str w_truth)) (.cons (.ret (.o2 .eq (.call F.law_mix (.cons (.var 0) (.cons (.int 9929) (.cons (.int 2) .nil)))) (.int 0))) .nil) .nil) (.cons (.ret (.call F.law_text (.cons (.var 0) .nil))) .nil))))) }
def f_law_kind : FDef := { n := 1, arity := 1, body :=
  (.cons (.ret (.tup (.cons (.o2 .idx (.tup (.cons (.str w_whole) (.cons (.str w_text) (.cons (.str w_truth) (.cons (.str w_whole) .nil))))) (.call F.law_mix (.cons (.var 0) (.cons (.int 9923) (.cons (.int 4) .nil))))) (.cons (.o2 .eq (.call F.law_mix (.cons (.var 0) (.cons (.int 9907) (.cons (.int 2) .nil)))) (.int 0)) .nil)))) .nil) }
def b_law_heading_0 : ISs := (.cons (.put 3 (.o2 .idx (.var 2) (.call F.law_mix (.cons (.o2 .add (.var 0) (.o2 .mul (.int 7) (.var 4))) (.cons (.int 9887) (.cons (.int 7) .nil))))) (.call F.law_kind (.cons (.o2 .add (.var 0) (.o2 .mul (.int 11) (.var 4))) .nil))) .nil)
def l_law_heading_1 : IS := .for_ (.nm 4) (.rng1 (.o2 .add (.int 1) (.call F.law_mix (.cons (.var 0) (.cons (.int 9901) (.cons (.var 1) .nil)))))) b_law_heading_0
def c_law_heading_2 : IE := .compK 5 (.var 3) (.tup (.cons (.var 5) (.cons (.o2 .idx (.var 3) (.var 5)) .nil)))
def f_law_heading : FDef := { n := 6, arity := 2, body :=
  (.cons (.asg (.nm 2) (.tup (.cons (.str w_a) (.cons (.str w_b) (.cons (.str w_c) (.cons (.str w_d) (.cons (.str w_e) (.cons (.str w_long) (.cons (.str w_xyzxyz) .nil))))))))) (.cons (.mset 3 (.dsp [] .nil)) (.cons l_law_heading_1 (.cons (.ret (.o1 .tuple c_law_heading_2)) .nil)))) }
def c_law_rows_0 : IE := .comp (.tu (.cons (.nm 5) (.cons (.nm 6) .nil))) (.enum (.var 0)) (.call F.law_value (.cons (.o2 .add (.o2 .add (.var 1) (.o2 .mul (.int 13) (.var 4))) (.o2 .mul (.int 5) (.var 5))) (.cons (.o2 .idx (.var 6) (.int 1)) .nil)))
def b_law_rows_1 : ISs := (.cons (.app 3 (.o1 .tuple c_law_rows_0)) (.cons (.if_ (.o2 .eq (.call F.law_mix (.cons (.o2 .add (.var 1) (.var 4)) (.cons (.int 9871) (.cons (.int 4) .nil)))) (.int 0)) (.cons (.app 3 (.o2 .idx (.var 3) (.call F.law_mix (.cons (.o2 .add (.var 1) (.var 4)) (.cons (.int 9859) (.cons (.o1 .len (.var 3)) .nil)))))) .nil) .nil) .nil))
def l_law_rows_2 : IS := .for_ (.nm 4) (.rng1 (.call F.law_mix (.cons (.var 1) (.cons (.int 9883) (.cons (.o2 .add (.var 2) (.int 1)) .nil))))) b_law_rows_1
def f_law_rows : FDef := { n := 7, arity := 3, body :=
  (.cons (.mset 3 (.lst .nil)) (.cons l_law_rows_2 (.cons (.ret (.o1 .tuple (.var 3))) .nil))) }
def b_law_house_0 : ISs := (.cons (.asg (.nm 4) (.call F.law_heading (.cons (.o2 .add (.var 0) (.o2 .mul (.int 17) (.var 2))) (.cons (.int 5) .nil)))) (.cons (.if_ (.and_ (.o2 .eq (.var 2) (.int 2)) (.o2 .eq (.o2 .mod (.var 0) (.int 2)) (.int 0))) (.cons (.asg (.nm 4) (.o2 .idx (.o2 .idx (.o2 .idx (.var 1) (.int 0)) (.int 1)) (.int 0))) .nil) .nil) (.cons (.app 1 (.tup (.cons (.var 3) (.cons (.tup (.cons (.var 4) (.cons (.call F.law_rows (.cons (.var 4) (.cons (.o2 .add (.var 0) (.o2 .mul (.int 19) (.var 2))) (.cons (.int 5) .nil)))) .nil))) .nil)))) .nil)))
def l_law_house_1 : IS := .for_ (.tu (.cons (.nm 2) (.cons (.nm 3) .nil))) (.enum (.tup (.cons (.str w_p) (.cons (.str w_q) (.cons (.str w_r) .nil))))) b_law_house_0
def f_law_house : FDef := { n := 5, arity := 1, body :=
  (.cons (.mset 1 (.lst .nil)) (.cons l_law_house_1 (.cons (.ret (.o1 .tuple (.var 1))) .nil))) }
def c_law_same_0 : IE := .comp (.tu (.cons (.nm 2) (.cons (.nm 3) .nil))) (.zip (.var 0) (.var 1)) (.call F.law_same (.cons (.var 2) (.cons (.var 3) .nil)))
def f_law_same : FDef := { n := 4, arity := 2, body :=
  (.cons (.if_ (.isi (.var 1) .tuple) (.cons (.if_ (.or_ (.o1 .not (.isi (.var 0) .tuple)) (.o2 .ne (.o1 .len (.var 0)) (.o1 .len (.var 1)))) (.cons (.ret (.bl false)) .nil) .nil) (.cons (.ret (.o1 .all c_law_same_0)) .nil)) .nil) (.cons (.if_ (.o2 .is (.var 1) .non) (.cons (.ret (.o2 .is (.var 0) .non)) .nil) .nil) (.cons (.if_ (.or_ (.isi (.var 1) .bool) (.isi (.var 0) .bool)) (.cons (.ret (.and_ (.isi (.var 1) .bool) (.and_ (.isi (.var 0) .bool) (.o2 .eq (.var 0) (.var 1))))) .nil) .nil) (.cons (.ret (.and_ (.isi (.var 0) .intstr) (.o2 .eq (.var 0) (.var 1)))) .nil)))) }
def c_law_change_0 : IE := .comp (.tu (.cons (.nm 11) (.cons (.nm 10) .nil))) (.seq (.o2 .idx (.var 8) (.int 0))) (.var 11)
def c_law_change_1 : IE := .compIf (.nm 11) (.seq (.tup (.cons (.str w_fresh) (.cons (.str w_aaaaaa) (.cons (.str w_brandx) (.cons (.str w_newone) (.cons (.str w_yet) .nil))))))) (.o2 .notin (.var 11) (.var 3)) (.var 11)
def c_law_change_2 : IE := .comp (.tu (.cons (.nm 11) (.cons (.nm 12) .nil))) (.seq (.var 1)) (.var 11)
def c_law_change_3 : IE := .compIf (.nm 11) (.seq (.tup (.cons (.str w_aa) (.cons (.str w_pp) (.cons (.str w_zz) (.cons (.str w_yy) (.cons (.str w_qq) .nil))))))) (.o2 .notin (.var 11) (.var 9)) (.var 11)
def f_law_change : FDef := { n := 13, arity := 2, body :=
  (.cons (.asg (.nm 2) (.call F.law_mix (.cons (.var 0) (.cons (.int 9521) (.cons (.int 4) .nil))))) (.cons (.asg (.tu (.cons (.nm 7) (.cons (.nm 8) .nil))) (.o2 .idx (.var 1) (.call F.law_mix (.cons (.var 0) (.cons (.int 9511) (.cons (.int 3) .nil)))))) (.cons (.asg (.nm 3) c_law_change_0) (.cons (.asg (.nm 4) (.o2 .idx (.var 3) (.call F.law_mix (.cons (.var 0) (.cons (.int 9497) (.cons (.o1 .len (.var 3)) .nil)))))) (.cons (.asg (.nm 5) c_law_change_1) (.cons (.asg (.nm 6) (.o2 .idx (.var 5) (.call F.law_mix (.cons (.var 0) (.cons (.int 9491) (.cons (.int 2) .nil)))))) (.cons (.if_ (.o2 .eq (.var 2) (.int 0)) (.cons (.asg (.nm 9) c_law_change_2) (.cons (.asg (.nm 5) c_law_change_3) (.cons (.ret (.tup (.cons (.str w_moved) (.cons (.var 7) (.cons (.o2 .idx (.var 5) (.call F.law_mix (.cons (.var 0) (.cons (.int 9479) (.cons (.int 2) .nil))))) .nil))))) .nil))) .nil) (.cons (.if_ (.o2 .eq (.var 2) (.int 1)) (.cons (.ret (.tup (.cons (.str w_called) (.cons (.var 7) (.cons (.var 4) (.cons (.var 6) .nil)))))) .nil) .nil) (.cons (.if_ (.o2 .eq (.var 2) (.int 2)) (.cons (.asg (.nm 10) (.call F.law_kind (.cons (.o2 .add (.var 0) (.int 3)) .nil))) (.cons (.ret (.tup (.cons (.str w_wider) (.cons (.var 7) (.cons (.var 6) (.cons (.var 10) (.cons (.call F.law_value (.cons (.o2 .add (.var 0) (.int 4)) (.cons (.var 10) .nil))) .nil))))))) .nil)) .nil) (.cons (.ret (.tup (.cons (.str w_gappy) (.cons (.var 7) (.cons (.var 4) .nil))))) .nil)))))))))) }
def c_law_changed_0 : IE := .comp (.tu (.cons (.nm 8) (.cons (.nm 9) .nil))) (.seq (.var 5)) (.tup (.cons (.ifE (.o2 .eq (.var 8) (.o2 .idx (.var 1) (.int 2))) (.o2 .idx (.var 1) (.int 3)) (.var 8)) (.cons (.var 9) .nil)))
def c_law_changed_1 : IE := .comp (.nm 10) (.seq (.var 6)) (.o2 .add (.var 10) (.o3 .sl (.var 1) (.int 4) .non))
def c_law_changed_2 : IE := .comp (.tu (.cons (.nm 8) (.cons (.nm 9) .nil))) (.seq (.var 5)) (.tup (.cons (.var 8) (.cons (.tup (.cons (.o2 .idx (.var 9) (.int 0)) (.cons (.or_ (.o2 .idx (.var 9) (.int 1)) (.o2 .eq (.var 8) (.o2 .idx (.var 1) (.int 2)))) .nil))) .nil)))
def b_law_changed_3 : ISs := (.cons (.if_ (.and_ (.o2 .eq (.var 4) (.o2 .idx (.var 1) (.int 1))) (.o2 .eq (.o2 .idx (.var 1) (.int 0)) (.str w_moved))) (.cons (.asg (.nm 4) (.o2 .idx (.var 1) (.int 2))) .nil) (.cons (.if_ (.and_ (.o2 .eq (.var 4) (.o2 .idx (.var 1) (.int 1))) (.o2 .eq (.o2 .idx (.var 1) (.int 0)) (.str w_called))) (.cons (.asg (.nm 5) (.o1 .tuple c_law_changed_0)) .nil) (.cons (.if_ (.and_ (.o2 .eq (.var 4) (.o2 .idx (.var 1) (.int 1))) (.o2 .eq (.o2 .idx (.var 1) (.int 0)) (.str w_wider))) (.cons (.asg (.nm 5) (.o2 .add (.var 5) (.tup (.cons (.o3 .sl (.var 1) (.int 2) (.int 4)) .nil)))) (.cons (.asg (.nm 6) (.o1 .tuple c_law_changed_1)) .nil)) (.cons (.if_ (.o2 .eq (.var 4) (.o2 .idx (.var 1) (.int 1))) (.cons (.asg (.nm 5) (.o1 .tuple c_law_changed_2)) .nil) .nil) .nil)) .nil)) .nil)) (.cons (.app 2 (.tup (.cons (.var 4) (.cons (.tup (.cons (.var 5) (.cons (.var 6) .nil))) .nil)))) .nil))
def l_law_changed_4 : IS := .for_ (.tu (.cons (.nm 4) (.cons (.tu (.cons (.nm 5) (.cons (.nm 6) .nil))) .nil))) (.seq (.var 0)) b_law_changed_3
def c_law_changed_5 : IE := .comp (.tu (.cons (.nm 4) (.cons (.nm 7) .nil))) (.seq (.var 2)) (.var 4)
def c_law_changed_6 : IE := .comp (.nm 4) (.seq (.var 3)) (.tup (.cons (.var 4) (.cons (.o2 .idx (.o1 .dict (.var 2)) (.var 4)) .nil)))
def f_law_changed : FDef := { n := 11, arity := 2, body :=
  (.cons (.mset 2 (.lst .nil)) (.cons l_law_changed_4 (.pub [2] (.cons (.asg (.nm 3) (.o1 .sorted c_law_changed_5)) (.cons (.ret (.o1 .tuple c_law_changed_6)) .nil))))) }
def c_law_0 : IE := .comp (.tu (.cons (.nm 7) (.cons (.nm 8) .nil))) (.seq (.var 2)) (.tup (.cons (.var 7) (.cons (.o2 .idx (.var 8) (.int 0)) .nil)))
def c_law_1 : IE := .comp (.tu (.cons (.nm 7) (.cons (.nm 8) .nil))) (.seq (.var 4)) (.tup (.cons (.var 7) (.cons (.o2 .idx (.var 8) (.int 0)) .nil)))
def b_law_2 : ISs := (.cons (.asg (.nm 2) (.call F.law_house (.cons (.o2 .add (.call F.law_cell (.cons (.var 0) (.cons (.var 1) .nil))) (.var 1)) .nil))) (.cons (.asg (.nm 3) (.call F.law_change (.cons (.o2 .add (.call F.law_cell (.cons (.var 0) (.cons (.int 4) .nil))) (.o2 .mul (.int 7) (.var 1))) (.cons (.var 2) .nil)))) (.cons (.asg (.nm 4) (.call F.law_changed (.cons (.var 2) (.cons (.var 3) .nil)))) (.cons (.if_ (.or_ (.o1 .not (.call F.law_same (.cons (.call F.changed (.cons (.var 2) (.cons (.var 3) .nil))) (.cons (.var 4) .nil)))) (.o2 .isnot (.call F.is_house (.cons (.call F.changed (.cons (.var 2) (.cons (.var 3) .nil))) .nil)) (.bl true))) (.cons (.ret (.bl false)) .nil) .nil) (.cons (.asg (.nm 5) (.o1 .tuple c_law_0)) (.cons (.if_ (.o1 .not (.call F.law_same (.cons (.call F.changed_heads (.cons (.var 5) (.cons (.var 3) .nil))) (.cons (.o1 .tuple c_law_1) .nil)))) (.cons (.ret (.bl false)) .nil) .nil) (.cons (.asg (.nm 6) (.tup (.cons (.str w_gappy) (.cons (.o2 .idx (.o2 .idx (.var 4) (.int 1)) (.int 0)) (.cons (.o2 .idx (.o2 .idx (.o2 .idx (.o2 .idx (.o2 .idx (.var 4) (.int 1)) (.int 1)) (.int 0)) (.int 0)) (.int 0)) .nil))))) (.cons (.if_ (.o1 .not (.call F.law_same (.cons (.call F.changed (.cons (.var 4) (.cons (.var 6) .nil))) (.cons (.call F.law_changed (.cons (.var 4) (.cons (.var 6) .nil))) .nil)))) (.cons (.ret (.bl false)) .nil) .nil) .nil))))))))
def l_law_3 : IS := .for_ (.nm 1) (.rng1 (.int 4)) b_law_2
def f_law : FDef := { n := 9, arity := 1, body :=
  (.cons l_law_3 (.cons (.ret (.bl true)) .nil)) }
def defs : Nat → Option FDef
  | 0 => some f_is_name
  | 1 => some f_is_sort
  | 2 => some f_sort_of
  | 3 => some f_is_kind
  | 4 => some f_is_of
  | 5 => some f_are_unlike
  | 6 => some f_are_tuples
  | 7 => some f_is_heading
  | 8 => some f_is_row
  | 9 => some f_is_table
  | 10 => some f_is_house
  | 11 => some f_called
  | 12 => some f_changed_heading
  | 13 => some f_changed_rows
  | 14 => some f_changed_heads
  | 15 => some f_changed
  | 16 => some f_law_cell
  | 17 => some f_law_mix
  | 18 => some f_law_text
  | 19 => some f_law_value
  | 20 => some f_law_kind
  | 21 => some f_law_heading
  | 22 => some f_law_rows
  | 23 => some f_law_house
  | 24 => some f_law_same
  | 25 => some f_law_change
  | 26 => some f_law_changed
  | 27 => some f_law
  | _ => none
theorem d_is_name : defs F.is_name = some f_is_name := rfl
theorem d_is_sort : defs F.is_sort = some f_is_sort := rfl
theorem d_sort_of : defs F.sort_of = some f_sort_of := rfl
theorem d_is_kind : defs F.is_kind = some f_is_kind := rfl
theorem d_is_of : defs F.is_of = some f_is_of := rfl
theorem d_are_unlike : defs F.are_unlike = some f_are_unlike := rfl
theorem d_are_tuples : defs F.are_tuples = some f_are_tuples := rfl
theorem d_is_heading : defs F.is_heading = some f_is_heading := rfl
theorem d_is_row : defs F.is_row = some f_is_row := rfl
theorem d_is_table : defs F.is_table = some f_is_table := rfl
theorem d_is_house : defs F.is_house = some f_is_house := rfl
theorem d_called : defs F.called = some f_called := rfl
theorem d_changed_heading : defs F.changed_heading = some f_changed_heading := rfl
theorem d_changed_rows : defs F.changed_rows = some f_changed_rows := rfl
theorem d_changed_heads : defs F.changed_heads = some f_changed_heads := rfl
theorem d_changed : defs F.changed = some f_changed := rfl
theorem d_law_cell : defs F.law_cell = some f_law_cell := rfl
theorem d_law_mix : defs F.law_mix = some f_law_mix := rfl
theorem d_law_text : defs F.law_text = some f_law_text := rfl
theorem d_law_value : defs F.law_value = some f_law_value := rfl
theorem d_law_kind : defs F.law_kind = some f_law_kind := rfl
theorem d_law_heading : defs F.law_heading = some f_law_heading := rfl
theorem d_law_rows : defs F.law_rows = some f_law_rows := rfl
theorem d_law_house : defs F.law_house = some f_law_house := rfl
theorem d_law_same : defs F.law_same = some f_law_same := rfl
theorem d_law_change : defs F.law_change = some f_law_change := rfl
theorem d_law_changed : defs F.law_changed = some f_law_changed := rfl
theorem d_law : defs F.law = some f_law := rfl
theorem u_is_name (n : Nat) (x0 : D) : callF defs (n + 1) F.is_name [x0] = (evalSs (callF defs n) f_is_name.body [some x0, none]).bind Fl.fin := rfl
theorem u_is_sort (n : Nat) (x0 : D) : callF defs (n + 1) F.is_sort [x0] = (evalSs (callF defs n) f_is_sort.body [some x0]).bind Fl.fin := rfl
theorem u_sort_of (n : Nat) (x0 : D) : callF defs (n + 1) F.sort_of [x0] = (evalSs (callF defs n) f_sort_of.body [some x0]).bind Fl.fin := rfl
theorem u_is_kind (n : Nat) (x0 : D) : callF defs (n + 1) F.is_kind [x0] = (evalSs (callF defs n) f_is_kind.body [some x0]).bind Fl.fin := rfl
theorem u_is_of (n : Nat) (x0 : D) (x1 : D) : callF defs (n + 1) F.is_of [x0, x1] = (evalSs (callF defs n) f_is_of.body [some x0, some x1]).bind Fl.fin := rfl
theorem u_are_unlike (n : Nat) (x0 : D) : callF defs (n + 1) F.are_unlike [x0] = (evalSs (callF defs n) f_are_unlike.body [some x0]).bind Fl.fin := rfl
theorem u_are_tuples (n : Nat) (x0 : D) (x1 : D) : callF defs (n + 1) F.are_tuples [x0, x1] = (evalSs (callF defs n) f_are_tuples.body [some x0, some x1, none]).bind Fl.fin := rfl
theorem u_is_heading (n : Nat) (x0 : D) : callF defs (n + 1) F.is_heading [x0] = (evalSs (callF defs n) f_is_heading.body [some x0, none, none]).bind Fl.fin := rfl
theorem u_is_row (n : Nat) (x0 : D) (x1 : D) : callF defs (n + 1) F.is_row [x0, x1] = (evalSs (callF defs n) f_is_row.body [some x0, some x1, none, none]).bind Fl.fin := rfl
theorem u_is_table (n : Nat) (x0 : D) : callF defs (n + 1) F.is_table [x0] = (evalSs (callF defs n) f_is_table.body [some x0, none]).bind Fl.fin := rfl
theorem u_is_house (n : Nat) (x0 : D) : callF defs (n + 1) F.is_house [x0] = (evalSs (callF defs n) f_is_house.body [some x0, none, none, none]).bind Fl.fin := rfl
theorem u_called (n : Nat) (x0 : D) (x1 : D) (x2 : D) : callF defs (n + 1) F.called [x0, x1, x2] = (evalSs (callF defs n) f_called.body [some x0, some x1, some x2]).bind Fl.fin := rfl
theorem u_changed_heading (n : Nat) (x0 : D) (x1 : D) : callF defs (n + 1) F.changed_heading [x0, x1] = (evalSs (callF defs n) f_changed_heading.body [some x0, some x1, none, none]).bind Fl.fin := rfl
theorem u_changed_rows (n : Nat) (x0 : D) (x1 : D) : callF defs (n + 1) F.changed_rows [x0, x1] = (evalSs (callF defs n) f_changed_rows.body [some x0, some x1, none]).bind Fl.fin := rfl
theorem u_changed_heads (n : Nat) (x0 : D) (x1 : D) : callF defs (n + 1) F.changed_heads [x0, x1] = (evalSs (callF defs n) f_changed_heads.body [some x0, some x1, none, none, none]).bind Fl.fin := rfl
theorem u_changed (n : Nat) (x0 : D) (x1 : D) : callF defs (n + 1) F.changed [x0, x1] = (evalSs (callF defs n) f_changed.body [some x0, some x1, none, none, none, none]).bind Fl.fin := rfl
theorem u_law_cell (n : Nat) (x0 : D) (x1 : D) : callF defs (n + 1) F.law_cell [x0, x1] = (evalSs (callF defs n) f_law_cell.body [some x0, some x1]).bind Fl.fin := rfl
theorem u_law_mix (n : Nat) (x0 : D) (x1 : D) (x2 : D) : callF defs (n + 1) F.law_mix [x0, x1, x2] = (evalSs (callF defs n) f_law_mix.body [some x0, some x1, some x2, none]).bind Fl.fin := rfl
theorem u_law_text (n : Nat) (x0 : D) : callF defs (n + 1) F.law_text [x0] = (evalSs (callF defs n) f_law_text.body [some x0, none, none]).bind Fl.fin := rfl
theorem u_law_value (n : Nat) (x0 : D) (x1 : D) : callF defs (n + 1) F.law_value [x0, x1] = (evalSs (callF defs n) f_law_value.body [some x0, some x1, none, none]).bind Fl.fin := rfl
theorem u_law_kind (n : Nat) (x0 : D) : callF defs (n + 1) F.law_kind [x0] = (evalSs (callF defs n) f_law_kind.body [some x0]).bind Fl.fin := rfl
theorem u_law_heading (n : Nat) (x0 : D) (x1 : D) : callF defs (n + 1) F.law_heading [x0, x1] = (evalSs (callF defs n) f_law_heading.body [some x0, some x1, none, none, none, none]).bind Fl.fin := rfl
theorem u_law_rows (n : Nat) (x0 : D) (x1 : D) (x2 : D) : callF defs (n + 1) F.law_rows [x0, x1, x2] = (evalSs (callF defs n) f_law_rows.body [some x0, some x1, some x2, none, none, none, none]).bind Fl.fin := rfl
theorem u_law_house (n : Nat) (x0 : D) : callF defs (n + 1) F.law_house [x0] = (evalSs (callF defs n) f_law_house.body [some x0, none, none, none, none]).bind Fl.fin := rfl
theorem u_law_same (n : Nat) (x0 : D) (x1 : D) : callF defs (n + 1) F.law_same [x0, x1] = (evalSs (callF defs n) f_law_same.body [some x0, some x1, none, none]).bind Fl.fin := rfl
theorem u_law_change (n : Nat) (x0 : D) (x1 : D) : callF defs (n + 1) F.law_change [x0, x1] = (evalSs (callF defs n) f_law_change.body [some x0, some x1, none, none, none, none, none, none, none, none, none, none, none]).bind Fl.fin := rfl
theorem u_law_changed (n : Nat) (x0 : D) (x1 : D) : callF defs (n + 1) F.law_changed [x0, x1] = (evalSs (callF defs n) f_law_changed.body [some x0, some x1, none, none, none, none, none, none, none, none, none]).bind Fl.fin := rfl
theorem u_law (n : Nat) (x0 : D) : callF defs (n + 1) F.law [x0] = (evalSs (callF defs n) f_law.body [some x0, none, none, none, none, none, none, none, none]).bind Fl.fin := rfl
def L : List PF := [
  ⟨0, 3, Str.ofString "is_name", ((["thing", "sign"] : List String).map Str.ofString), ((["thing"] : List String).map Str.ofString), []⟩,
  ⟨1, 4, Str.ofString "is_sort", ((["thing"] : List String).map Str.ofString), ((["thing"] : List String).map Str.ofString), []⟩,
  ⟨2, 5, Str.ofString "sort_of", ((["value"] : List String).map Str.ofString), ((["value"] : List String).map Str.ofString), []⟩,
  ⟨3, 6, Str.ofString "is_kind", ((["thing"] : List String).map Str.ofString), ((["thing"] : List String).map Str.ofString), []⟩,
  ⟨4, 7, Str.ofString "is_of", ((["value", "kind"] : List String).map Str.ofString), ((["value", "kind"] : List String).map Str.ofString), []⟩,
  ⟨5, 8, Str.ofString "are_unlike", ((["some"] : List String).map Str.ofString), ((["some"] : List String).map Str.ofString), []⟩,
  ⟨6, 9, Str.ofString "are_tuples", ((["thing", "size", "one"] : List String).map Str.ofString), ((["thing", "size"] : List String).map Str.ofString), []⟩,
  ⟨7, 10, Str.ofString "is_heading", ((["thing", "name", "kind"] : List String).map Str.ofString), ((["thing"] : List String).map Str.ofString), []⟩,
  ⟨8, 11, Str.ofString "is_row", ((["thing", "heading", "value", "column"] : List String).map Str.ofString), ((["thing", "heading"] : List String).map Str.ofString), []⟩,
  ⟨9, 12, Str.ofString "is_table", ((["thing", "row"] : List String).map Str.ofString), ((["thing"] : List String).map Str.ofString), []⟩,
  ⟨10, 13, Str.ofString "is_house", ((["thing", "k", "name", "table"] : List String).map Str.ofString), ((["thing"] : List String).map Str.ofString), []⟩,
  ⟨11, 15, Str.ofString "called", ((["name", "old", "new"] : List String).map Str.ofString), ((["name", "old", "new"] : List String).map Str.ofString), []⟩,
  ⟨12, 17, Str.ofString "changed_heading", ((["heading", "change", "name", "kind"] : List String).map Str.ofString), ((["heading", "change"] : List String).map Str.ofString), []⟩,
  ⟨13, 18, Str.ofString "changed_rows", ((["rows", "change", "row"] : List String).map Str.ofString), ((["rows", "change"] : List String).map Str.ofString), []⟩,
  ⟨14, 19, Str.ofString "changed_heads", ((["heads", "change", "found", "name", "heading"] : List String).map Str.ofString), ((["heads", "change"] : List String).map Str.ofString), [2]⟩,
  ⟨15, 20, Str.ofString "changed", ((["house", "change", "found", "some", "name", "table"] : List String).map Str.ofString), ((["house", "change"] : List String).map Str.ofString), [2]⟩,
  ⟨16, 22, Str.ofString "_law_cell", ((["script", "k"] : List String).map Str.ofString), ((["script", "k"] : List String).map Str.ofString), []⟩,
  ⟨17, 23, Str.ofString "_law_mix", ((["cell", "prime", "many", "blend"] : List String).map Str.ofString), ((["cell", "prime", "many"] : List String).map Str.ofString), []⟩,
  ⟨18, 24, Str.ofString "_law_text", ((["cell", "signs", "k"] : List String).map Str.ofString), ((["cell"] : List String).map Str.ofString), []⟩,
  ⟨19, 25, Str.ofString "_law_value", ((["cell", "kind", "sort", "may"] : List String).map Str.ofString), ((["cell", "kind"] : List String).map Str.ofString), []⟩,
  ⟨20, 26, Str.ofString "_law_kind", ((["cell"] : List String).map Str.ofString), ((["cell"] : List String).map Str.ofString), []⟩,
  ⟨21, 27, Str.ofString "_law_heading", ((["cell", "most", "names", "found", "k", "name"] : List String).map Str.ofString), ((["cell", "most"] : List String).map Str.ofString), [3]⟩,
  ⟨22, 28, Str.ofString "_law_rows", ((["heading", "cell", "many", "found", "k", "j", "column"] : List String).map Str.ofString), ((["heading", "cell", "many"] : List String).map Str.ofString), [3]⟩,
  ⟨23, 29, Str.ofString "_law_house", ((["cell", "found", "k", "name", "heading"] : List String).map Str.ofString), ((["cell"] : List String).map Str.ofString), [1]⟩,
  ⟨24, 30, Str.ofString "_law_same", ((["found", "due", "one", "other"] : List String).map Str.ofString), ((["found", "due"] : List String).map Str.ofString), []⟩,
  ⟨25, 31, Str.ofString "_law_change", ((["cell", "house", "way", "columns", "column", "some", "fresh", "name", "table", "names", "kind", "one", "other"] : List String).map Str.ofString), ((["cell", "house"] : List String).map Str.ofString), []⟩,
  ⟨26, 32, Str.ofString "_law_changed", ((["house", "change", "found", "names", "name", "heading", "rows", "table", "one", "kind", "row"] : List String).map Str.ofString), ((["house", "change"] : List String).map Str.ofString), [2]⟩,
  ⟨27, 33, Str.ofString "law", ((["script", "k", "house", "change", "due", "heads", "further", "name", "one"] : List String).map Str.ofString), ((["script"] : List String).map Str.ofString), []⟩]
def top (i : Nat) : Stmt := PySem.Challenge.pw_tablequest_k32_tables_changed.main.body.getD i (.Pass ⟨0, 0, 0, 0⟩)
def fnm (f : Nat) : Option (Str × Nat) := (L.find? fun p => p.f == f).map fun p => (p.x, p.ps.length)
theorem all_in (f : Nat) (x : Str) (ar : Nat) (h : fnm f = some (x, ar)) : ∃ p ∈ L, p.f = f := by
  unfold fnm at h
  cases q : L.find? fun p => p.f == f with
  | none => rw [q] at h; cases h
  | some p => exact ⟨p, List.mem_of_find?_eq_some q, by simpa using List.find?_some q⟩
theorem checked : (L.all fun p => chkF fnm GL defs p (top p.i)) = true := by decide +kernel
def loose : List PySem.Str := ((["SORTS", "LETTERS", "is_name", "is_sort", "sort_of", "is_kind", "is_of", "are_unlike", "are_tuples", "is_heading", "is_row", "is_table", "is_house", "called", "changed_heading", "changed_rows", "changed_heads", "changed", "_law_cell", "_law_mix", "_law_text", "_law_value", "_law_kind", "_law_heading", "_law_rows", "_law_house", "_law_same", "_law_change", "_law_changed"] : List String).map Str.ofString)
abbrev R : PySem.W.OpenRow := PySem.W.OpenLaw.row PySem.Challenge.rw_tablequest_k32_tables_changed
abbrev hk : PySem.W.Hook := hookT 4 (faOf L) (L.map (defD top)) GL
def ob (s : PySem.W.SharedT) : AlQ := obsT 4 (faOf L) (L.map (defD top)) GL (HandSHeadRun.getT s)
theorem ob_eq (s : PySem.W.SharedT) : ob s = hk.obs s.abs := obsT_eq (HandSHeadRun.getT_eq s)
theorem run_no (w : World) : HandSHeadRun.RunEq R (PySem.W.view R.prog [33]) hk ob 2500 loose (w.withFollow "special-get-raises" false) := by
  intro os
  kernel_rfl
theorem run_yes (w : World) : HandSHeadRun.RunEq R (PySem.W.view R.prog [33]) hk ob 2500 loose (w.withFollow "special-get-raises" true) := by
  intro os
  kernel_rfl
theorem run (w : World) : HandSHeadRun.RunEq R (PySem.W.view R.prog [33]) hk ob 2500 loose w := PySem.W.byRow2 "special-get-raises" run_no run_yes w
/-! the head ends -/
/-! steps of a walk -/
section
variable {ρ : Nat → List D → Res D}
theorem fin_of {ss : ISs} {env : En} {r : D} (h : evalSs ρ ss env = .ok (.ret r)) : (evalSs ρ ss env).bind Fl.fin = .ok r := by rw [h]; rfl
theorem seq_asg {i : Nat} {e : IE} {ss : ISs} {env : En} {d : D} (h : evalE ρ e env = .ok d) : evalSs ρ (.cons (.asg (.nm i) e) ss) env = evalSs ρ ss (env.set i (some d)) := by
  simp only [evalSs, evalS, h, bind_ok, put_nm, Fl.go_next]
theorem seq_if_f {c : IE} {a b ss : ISs} {env : En} {d : D} (h : evalE ρ c env = .ok d) (t : truth d = .ok false) (hb : b = .nil) : evalSs ρ (.cons (.if_ c a b) ss) env = evalSs ρ ss env := by
  subst hb
  simp only [evalSs, evalS, h, bind_ok, t, if_false, Bool.false_eq_true, Fl.go_next]
theorem seq_if_t {c : IE} {a b ss : ISs} {env : En} {d x : D} (h : evalE ρ c env = .ok d) (t : truth d = .ok true) (r : evalSs ρ a env = .ok (.ret x)) : evalSs ρ (.cons (.if_ c a b) ss) env = .ok (.ret x) := by
  simp only [evalSs, evalS, h, bind_ok, t, if_true, r, Fl.go_ret]
theorem seq_if_n {c : IE} {a b ss : ISs} {env e : En} {d : D} (h : evalE ρ c env = .ok d) (t : truth d = .ok true) (r : evalSs ρ a env = .ok (.next e)) : evalSs ρ (.cons (.if_ c a b) ss) env = evalSs ρ ss e := by
  simp only [evalSs, evalS, h, bind_ok, t, if_true, r, Fl.go_next]
theorem seq_if_e {c : IE} {a b ss : ISs} {env e : En} {d : D} (h : evalE ρ c env = .ok d) (t : truth d = .ok false) (r : evalSs ρ b env = .ok (.next e)) : evalSs ρ (.cons (.if_ c a b) ss) env = evalSs ρ ss e := by
  simp only [evalSs, evalS, h, bind_ok, t, if_false, Bool.false_eq_true, r, Fl.go_next]
theorem seq_if_er {c : IE} {a b ss : ISs} {env : En} {d x : D} (h : evalE ρ c env = .ok d) (t : truth d = .ok false) (r : evalSs ρ b env = .ok (.ret x)) : evalSs ρ (.cons (.if_ c a b) ss) env = .ok (.ret x) := by
  simp only [evalSs, evalS, h, bind_ok, t, if_false, Bool.false_eq_true, r, Fl.go_ret]
theorem seq_ret {e : IE} {ss : ISs} {env : En} {d : D} (h : evalE ρ e env = .ok d) : evalSs ρ (.cons (.ret e) ss) env = .ok (.ret d) := by
  simp only [evalSs, evalS, h, bind_ok, Fl.go_ret]
theorem seq_for {t : Tg} {it : IT} {body ss : ISs} {env e : En} {ds : List D} (hi : evalIT ρ it env = .ok ds) (h : forD (fun d e => (t.put d e).bind fun e' => evalSs ρ body e') ds env = .ok (.next e)) : evalSs ρ (.cons (.for_ t it body) ss) env = evalSs ρ ss e := by
  simp only [evalSs, evalS, hi, bind_ok, h, Fl.go_next]
theorem seq_for_ret {t : Tg} {it : IT} {body ss : ISs} {env : En} {ds : List D} {x : D} (hi : evalIT ρ it env = .ok ds) (h : forD (fun d e => (t.put d e).bind fun e' => evalSs ρ body e') ds env = .ok (.ret x)) : evalSs ρ (.cons (.for_ t it body) ss) env = .ok (.ret x) := by
  simp only [evalSs, evalS, hi, bind_ok, h, Fl.go_ret]
theorem it_rng2 {a b : IE} {env : En} {i j : Int} {ds : List D} (ha : evalE ρ a env = .ok (.int i)) (hb : evalE ρ b env = .ok (.int j)) (h : rng2D (.int i) (.int j) = .ok ds) : evalIT ρ (.rng2 a b) env = .ok ds := by
  simp only [evalIT, ha, hb, bind_ok, h]
theorem it_rng1 {a : IE} {env : En} {i : Int} {ds : List D} (ha : evalE ρ a env = .ok (.int i)) (h : rng1D (.int i) = .ok ds) : evalIT ρ (.rng1 a) env = .ok ds := by
  simp only [evalIT, ha, bind_ok, h]
end
/-! texts in tuples of texts; plain rules -/
theorem eqv_str (y x : Str) : PyData.eqv (.str y) (.str x) = (y == x) := by simp [PyData.eqv]
def inWords (ws : List Str) : D → Bool
  | .str x => decide (x ∈ ws)
  | _ => false
theorem words_flat : ∀ ws : List Str, noDicts (ws.map PyData.str) = true ∧ PyData.depthAll (ws.map PyData.str) = 0
  | [] => ⟨by simp [noDicts], by simp [PyData.depthAll]⟩
  | w :: ws => by
    obtain ⟨h1, h2⟩ := words_flat ws
    refine ⟨by simp [noDicts, noDict, h1], ?_⟩
    simp only [List.map_cons, PyData.depthAll, PyData.depth, h2]; rfl
theorem words_any (ws : List Str) (d : D) (h : noDict d = true) : ((ws.map PyData.str).any fun z => PyData.eqv z d) = inWords ws d := by
  induction ws with
  | nil => cases d <;> simp [inWords]
  | cons w ws ih =>
    rw [List.map_cons, List.any_cons, ih]
    cases d with
    | str x =>
      rw [eqv_str]
      show _ = decide (x ∈ w :: ws)
      rw [Bool.eq_iff_iff, Bool.or_eq_true, beq_iff_eq, decide_eq_true_iff, List.mem_cons, eq_comm (a := x)]
      show w = x ∨ decide (x ∈ ws) = true ↔ _
      rw [decide_eq_true_iff]
    | dict _ => simp [noDict] at h
    | _ => simp [inWords, PyData.eqv]
theorem inOk_words (d : D) (ws : List Str) (h : noDict d = true) : inOk d (ws.map PyData.str) = true := by
  obtain ⟨h1, h2⟩ := words_flat ws
  unfold inOk
  rw [h, h1, h2]
  simp
theorem notin_words (d : D) (ws : List Str) (h : noDict d = true) : op2 .notin d (.tuple (ws.map PyData.str)) = .ok (.bool (!inWords ws d)) := by
  rw [o2_notin (inOk_words d ws h), words_any ws d h]
theorem notin_ws (x : Str) (ws : List Str) : op2 .notin (.str x) (.tuple (ws.map PyData.str)) = .ok (.bool (!decide (x ∈ ws))) := notin_words (.str x) ws (by simp [noDict])
theorem o2_ne_i (i j : Int) : op2 .ne (.int i) (.int j) = .ok (.bool (!(i == j))) := by
  rw [o2_ne (eqOk_l (by simp [PyData.depth]) (by simp [noDict]) (by simp [noDict]))]; simp [PyData.eqv]
theorem strs_str (ys : List Str) : strsD (ys.map PyData.str) = some ys := by
  induction ys with
  | nil => rfl
  | cons y ys ih => simp only [List.map_cons, strsD, ih, Option.map_some]
def mix (c p m : Int) : Int := (c * 48271 % p) * (c * 48271 % p + 7) % p % m
theorem mix_range (c p : Int) {m : Int} (hm : 0 < m) : 0 ≤ mix c p m ∧ mix c p m < m := ⟨Int.emod_nonneg _ (by omega), Int.emod_lt_of_pos _ hm⟩
theorem mix_eq (n : Nat) (c p m : Int) (hp : 0 < p) (hp2 : p ≤ 10000) (hm : 0 < m) : callF defs (n + 1) F.law_mix [.int c, .int p, .int m] = .ok (.int (mix c p m)) := by
  have h1 : 0 ≤ c * 48271 % p := Int.emod_nonneg _ (by omega)
  have h2 : c * 48271 % p < p := Int.emod_lt_of_pos _ hp
  have e1 : mulOk c 48271 = true := mulOk_r (by omega) (by omega)
  have e2 : mulOk (c * 48271 % p) (c * 48271 % p + 7) = true := mulOk_l (by omega) (by omega)
  rw [call_of d_law_mix]
  simp [f_law_mix, runF, evalSs, evalS, evalE, o2_mul e1, o2_mod hp, o2_mul e2, o2_mod hm, mix]
def cellOf (ns : List Int) (k : Int) : Int := if k < ns.length then ns.getD k.toNat 0 else 0
theorem cell_eq (n : Nat) (ns : List Int) (k : Int) (hk : 0 ≤ k) : callF defs (n + 1) F.law_cell [scrD (ns.map PyData.int), .int k] = .ok (.int (cellOf ns k)) := by
  unfold cellOf
  rw [call_of d_law_cell]
  by_cases h : k < ns.length
  · have hl : k.toNat < ns.length := by omega
    have e : (ns.map PyData.int)[k.toNat]? = some (PyData.int (ns.getD k.toNat 0)) := by
      rw [List.getElem?_map, List.getElem?_eq_getElem hl, List.getD_eq_getElem?_getD, List.getElem?_eq_getElem hl]; rfl
    simp [f_law_cell, runF, evalSs, evalS, evalE, h, o2_idx_scr (at_nat hk e)]
  · simp [f_law_cell, runF, evalSs, evalS, evalE, h]
abbrev kindD (s : Str) (m : Bool) : D := .tuple [.str s, .bool m]
/-- the three sorts -/
def sorts3 : List Str := [w_whole, w_text, w_truth]
def kindOf (c : Int) : Str × Bool := (([w_whole, w_text, w_truth, w_whole] : List Str).getD (mix c 9923 4).toNat w_whole, mix c 9907 2 == 0)
theorem kindOf_in (c : Int) : (kindOf c).1 ∈ sorts3 := by
  obtain ⟨h1, h2⟩ := mix_range c 9923 (m := 4) (by omega)
  have : (mix c 9923 4).toNat < 4 := by omega
  show ([w_whole, w_text, w_truth, w_whole] : List Str).getD (mix c 9923 4).toNat w_whole ∈ sorts3
  generalize (mix c 9923 4).toNat = i at this
  match i, this with
  | 0, _ => simp [sorts3]
  | 1, _ => simp [sorts3]
  | 2, _ => simp [sorts3]
  | 3, _ => simp [sorts3]
theorem getD_map {α β : Type} {f : α → β} {l : List α} {i : Nat} {d : α} (h : i < l.length) : (l.map f)[i]? = some (f (l.getD i d)) := by
  rw [List.getElem?_map, List.getElem?_eq_getElem h, List.getD_eq_getElem?_getD, List.getElem?_eq_getElem h]; rfl
theorem kind_eq (n : Nat) (c : Int) : callF defs (n + 2) F.law_kind [.int c] = .ok (kindD (kindOf c).1 (kindOf c).2) := by
  have m1 : callF defs (n + 1) F.law_mix [.int c, .int 9923, .int 4] = .ok (.int (mix c 9923 4)) := mix_eq n c 9923 4 (by omega) (by omega) (by omega)
  have m2 : callF defs (n + 1) F.law_mix [.int c, .int 9907, .int 2] = .ok (.int (mix c 9907 2)) := mix_eq n c 9907 2 (by omega) (by omega) (by omega)
  obtain ⟨h1, h2⟩ := mix_range c 9923 (m := 4) (by omega)
  have e : ([w_whole, w_text, w_truth, w_whole].map PyData.str)[(mix c 9923 4).toNat]? = some (.str (kindOf c).1) := getD_map (d := w_whole) (by simp; omega)
  have := o2_idx_t (at_nat h1 e)
  rw [call_of d_law_kind]
  simp only [List.map_cons, List.map_nil] at this
  simp [f_law_kind, runF, evalSs, evalS, evalE, evalEs, m1, m2, this, kindOf]
/-! sorts and values -/
def sortS : D → Option Str
  | .bool _ => some w_truth
  | .int _ => some w_whole
  | .str _ => some w_text
  | _ => none
def optS : Option Str → D
  | some s => .str s
  | none => .none
def signs : Str := s_32_33_34_35_36_38_39_40_41_42_43_44_l94
theorem signs_len : signs.cps.toList.length = 94 := by decide +kernel
/-- a drawn value of a sort -/
inductive Val : Str → D → Prop
  | whole (i : Int) : -3 ≤ i → i ≤ 3 → Val w_whole (.int i)
  | truth (b : Bool) : Val w_truth (.bool b)
  | text (x : Str) : x.length ≤ 4 → (∀ c ∈ x.cps.toList, c ∈ signs.cps.toList) → Val w_text (.str x)
theorem join_signs : ∀ cs : List Nat, (Str.join s_e (cs.map fun c => (⟨#[c]⟩ : Str))).cps.toList = cs
  | [] => rfl
  | [c] => rfl
  | c :: d :: r => by
    have ih := join_signs (d :: r)
    show ((⟨#[c]⟩ : Str) ++ s_e ++ Str.join s_e ((d :: r).map fun c => (⟨#[c]⟩ : Str))).cps.toList = _
    have e : ∀ x y : Str, (x ++ y).cps.toList = x.cps.toList ++ y.cps.toList := fun x y => by
      show (x.cps ++ y.cps).toList = _
      simp
    rw [e, e, ih]; rfl
def signAt (i : Int) : Nat := (L2.atI signs.cps.toList i).getD 0
theorem signAt_eq (i : Int) (h0 : 0 ≤ i) (h1 : i < 94) : L2.atI signs.cps.toList i = some (signAt i) ∧ signAt i ∈ signs.cps.toList := by
  obtain ⟨x, hx, ha, _⟩ := atI_in (xs := signs.cps.toList) h0 (by rw [signs_len]; exact h1)
  unfold signAt
  rw [ha]; exact ⟨rfl, hx⟩
def texts5 : List Str := [s_e, w_a, w_b, w_ab, w_B]
theorem texts5_ok : ∀ x ∈ texts5, x.length ≤ 4 ∧ ∀ c ∈ x.cps.toList, c ∈ signs.cps.toList := by decide +kernel
theorem rangeD_map (f : Int → D) : ∀ (n : Nat) (lo : Int), (rangeD lo n).map (fun d => match d with | .int k => f k | d => d) = (List.range n).map fun k : Nat => f (lo + (k : Int))
  | 0, _ => rfl
  | n + 1, lo => by
    rw [List.range_succ_eq_map, List.map_cons, List.map_map]
    show f lo :: (rangeD (lo + 1) n).map _ = _
    rw [rangeD_map f n (lo + 1)]
    congr 1
    · simp
    · refine List.map_congr_left fun k _ => ?_
      simp only [Function.comp]
      congr 1
      push_cast; omega
theorem text_drawn (n : Nat) (c : Int) : ∃ x : Str, callF defs (n + 2) F.law_text [.int c] = .ok (.str x) ∧ x.length ≤ 4 ∧ ∀ c ∈ x.cps.toList, c ∈ signs.cps.toList := by
  have m1 : callF defs (n + 1) F.law_mix [.int c, .int 9973, .int 5] = .ok (.int (mix c 9973 5)) := mix_eq n c 9973 5 (by omega) (by omega) (by omega)
  have m2 : callF defs (n + 1) F.law_mix [.int c, .int 9949, .int 5] = .ok (.int (mix c 9949 5)) := mix_eq n c 9949 5 (by omega) (by omega) (by omega)
  have h3 : op2 .mod (.int c) (.int 3) = .ok (.int (c % 3)) := o2_mod (by omega)
  rw [u_law_text]
  by_cases h : c % 3 = 0
  · obtain ⟨h1, h2⟩ := mix_range c 9973 (m := 5) (by omega)
    obtain ⟨x, hx, ha, _⟩ := atI_in (xs := texts5.map PyData.str) h1 (by simp [texts5]; omega)
    obtain ⟨y, hy, rfl⟩ := List.mem_map.mp hx
    have ok := texts5_ok y hy
    have := o2_idx_t ha
    simp only [texts5, List.map_cons, List.map_nil] at this
    have h' : (c % 3 == 0) = true := by simp [h]
    refine ⟨y, ?_, ok⟩
    simp only [evalSs, evalS, evalE, evalEs, evalIT, Res.bind_ok, Res.bind_bad, Res.bind_exc, Res.tame_ok, Fl.go_next, Fl.go_ret, Fl.fin_next, Fl.fin_ret, slot_some, List.getElem?_cons_zero, List.getElem?_cons_succ, List.set_cons_zero, List.set_cons_succ, put_nm, put_tu, puts_nil, puts_cons, chainK_t, chainK_f, truth_bool, truth_none, truth_int, truth_list, truth_tuple, truth_str, o2_add_i, o2_sub_i, o2_lt_i, o2_le_i, o2_gt_i, o2_ge_i, o2_is_n, o2_is_b, o2_isnot_n, o2_isnot_b, o2_eq_i, o2_eq_s, o2_eq_ns, o2_eq_b, o2_ne_b, o2_idx_t0, o2_idx_t1, o1_len_scr, o1_len_t, o1_len_l, o1_len_s, o1_not_b, o1_tuple_l, o1_list_t, o1_list_l, o1_rev_t, o1_neg_i, o1_int_b, isi_s, isi_i, isi_b, isi_n, isi_t, isi_l, isTy, isNone_n, isNone_b, isNone_i, isNone_s, isNone_t, isNone_l, isBool_b, Bool.not_true, Bool.not_false, eq_self, if_true, if_false, Bool.false_eq_true, reduceIte, beq_self_eq_true, f_law_text, m1, h3, h', this]
  · obtain ⟨h1, h2⟩ := mix_range c 9949 (m := 5) (by omega)
    have hr := rng1_ok (n := mix c 9949 5) h1 (by omega)
    let g : Int → D := fun k => .str ⟨#[signAt (mix (c + 7 * k) 9967 94)]⟩
    have hsl : op1 .len (.str s_32_33_34_35_36_38_39_40_41_42_43_44_l94) = .ok (.int 94) := by
      rw [o1_len_s]
      exact congrArg (fun n : Nat => Res.ok (PyData.int n)) (show signs.length = 94 by decide +kernel)
    have hc : evalE (callF defs (n + 1)) c_law_text_0 [some (.int c), some (.str s_32_33_34_35_36_38_39_40_41_42_43_44_l94), none] = .ok (.list ((rangeD 0 (mix c 9949 5).toNat).map (fun d => match d with | .int k => g k | d => d))) := by
      unfold c_law_text_0
      refine comp_nm (by simp only [evalSs, evalS, evalE, evalEs, evalIT, Res.bind_ok, Res.bind_bad, Res.bind_exc, Res.tame_ok, Fl.go_next, Fl.go_ret, Fl.fin_next, Fl.fin_ret, slot_some, List.getElem?_cons_zero, List.getElem?_cons_succ, List.set_cons_zero, List.set_cons_succ, put_nm, put_tu, puts_nil, puts_cons, chainK_t, chainK_f, truth_bool, truth_none, truth_int, truth_list, truth_tuple, truth_str, o2_add_i, o2_sub_i, o2_lt_i, o2_le_i, o2_gt_i, o2_ge_i, o2_is_n, o2_is_b, o2_isnot_n, o2_isnot_b, o2_eq_i, o2_eq_s, o2_eq_ns, o2_eq_b, o2_ne_b, o2_idx_t0, o2_idx_t1, o1_len_scr, o1_len_t, o1_len_l, o1_len_s, o1_not_b, o1_tuple_l, o1_list_t, o1_list_l, o1_rev_t, o1_neg_i, o1_int_b, isi_s, isi_i, isi_b, isi_n, isi_t, isi_l, isTy, isNone_n, isNone_b, isNone_i, isNone_s, isNone_t, isNone_l, isBool_b, Bool.not_true, Bool.not_false, eq_self, if_true, if_false, Bool.false_eq_true, reduceIte, beq_self_eq_true, m2, hr]) fun d hd => ?_
      obtain ⟨k, rfl, k0, k1⟩ := mem_range hd
      have m3 : callF defs (n + 1) F.law_mix [.int (c + 7 * k), .int 9967, .int 94] = .ok (.int (mix (c + 7 * k) 9967 94)) := mix_eq n (c + 7 * k) 9967 94 (by omega) (by omega) (by omega)
      obtain ⟨a1, a2⟩ := mix_range (c + 7 * k) 9967 (m := 94) (by omega)
      have e7 : op2 .mul (.int 7) (.int k) = .ok (.int (7 * k)) := o2_mul (mulOk_l (by omega) (by omega))
      have ei : op2 .idx (.str s_32_33_34_35_36_38_39_40_41_42_43_44_l94) _ = _ := o2_idx_s (signAt_eq _ a1 a2).1
      simp only [evalSs, evalS, evalE, evalEs, evalIT, Res.bind_ok, Res.bind_bad, Res.bind_exc, Res.tame_ok, Fl.go_next, Fl.go_ret, Fl.fin_next, Fl.fin_ret, slot_some, List.getElem?_cons_zero, List.getElem?_cons_succ, List.set_cons_zero, List.set_cons_succ, put_nm, put_tu, puts_nil, puts_cons, chainK_t, chainK_f, truth_bool, truth_none, truth_int, truth_list, truth_tuple, truth_str, o2_add_i, o2_sub_i, o2_lt_i, o2_le_i, o2_gt_i, o2_ge_i, o2_is_n, o2_is_b, o2_isnot_n, o2_isnot_b, o2_eq_i, o2_eq_s, o2_eq_ns, o2_eq_b, o2_ne_b, o2_idx_t0, o2_idx_t1, o1_len_scr, o1_len_t, o1_len_l, o1_len_s, o1_not_b, o1_tuple_l, o1_list_t, o1_list_l, o1_rev_t, o1_neg_i, o1_int_b, isi_s, isi_i, isi_b, isi_n, isi_t, isi_l, isTy, isNone_n, isNone_b, isNone_i, isNone_s, isNone_t, isNone_l, isBool_b, Bool.not_true, Bool.not_false, eq_self, if_true, if_false, Bool.false_eq_true, reduceIte, beq_self_eq_true, e7, hsl, m3, ei, g]
    rw [rangeD_map] at hc
    let cs : List Nat := (List.range (mix c 9949 5).toNat).map fun k : Nat => signAt (mix (c + 7 * (0 + (k : Int))) 9967 94)
    have ecs : ((List.range (mix c 9949 5).toNat).map fun k : Nat => g (0 + (k : Int))) = ((cs.map fun c => (⟨#[c]⟩ : Str)).map PyData.str) := by
      simp only [cs, List.map_map]; rfl
    rw [ecs] at hc
    have lcs : cs.length = (mix c 9949 5).toNat := by simp [cs]
    have hj : op2 .join (.str s_e) (.list ((cs.map fun c => (⟨#[c]⟩ : Str)).map PyData.str)) = .ok (.str (Str.join s_e (cs.map fun c => (⟨#[c]⟩ : Str)))) := by
      rw [show op2 .join = joinD from rfl]
      unfold joinD
      simp only [strs_str]
      have e1 : ((cs.map fun c => (⟨#[c]⟩ : Str)).map Str.length).sum = cs.length := by
        clear ecs lcs hc
        induction cs with
        | nil => rfl
        | cons a r ih =>
          simp only [List.map_cons, List.sum_cons, ih, List.length_cons]
          show 1 + r.length = r.length + 1
          omega
      rw [e1, if_pos]
      refine fits_of ?_
      rw [show s_e.length = 0 from rfl, lcs]
      omega
    have hx := join_signs cs
    have hne : (c % 3 == 0) = false := by simp [h]
    refine ⟨_, by simp only [evalSs, evalS, evalE, evalEs, evalIT, Res.bind_ok, Res.bind_bad, Res.bind_exc, Res.tame_ok, Fl.go_next, Fl.go_ret, Fl.fin_next, Fl.fin_ret, slot_some, List.getElem?_cons_zero, List.getElem?_cons_succ, List.set_cons_zero, List.set_cons_succ, put_nm, put_tu, puts_nil, puts_cons, chainK_t, chainK_f, truth_bool, truth_none, truth_int, truth_list, truth_tuple, truth_str, o2_add_i, o2_sub_i, o2_lt_i, o2_le_i, o2_gt_i, o2_ge_i, o2_is_n, o2_is_b, o2_isnot_n, o2_isnot_b, o2_eq_i, o2_eq_s, o2_eq_ns, o2_eq_b, o2_ne_b, o2_idx_t0, o2_idx_t1, o1_len_scr, o1_len_t, o1_len_l, o1_len_s, o1_not_b, o1_tuple_l, o1_list_t, o1_list_l, o1_rev_t, o1_neg_i, o1_int_b, isi_s, isi_i, isi_b, isi_n, isi_t, isi_l, isTy, isNone_n, isNone_b, isNone_i, isNone_s, isNone_t, isNone_l, isBool_b, Bool.not_true, Bool.not_false, eq_self, if_true, if_false, Bool.false_eq_true, reduceIte, beq_self_eq_true, f_law_text, h3, hne, hc, hj]; rfl, ?_, ?_⟩
    · have := congrArg List.length hx
      rw [Array.length_toList] at this
      show Array.size _ ≤ 4
      rw [this, lcs]
      omega
    · rw [hx]
      intro z hz
      obtain ⟨k, hk, rfl⟩ := List.mem_map.mp hz
      obtain ⟨a1, a2⟩ := mix_range (c + 7 * (0 + (k : Int))) 9967 (m := 94) (by omega)
      exact (signAt_eq _ a1 a2).2
/-- a drawn value of a kind -/
theorem value_drawn (n : Nat) (c : Int) (s : Str) (m : Bool) (hs : s ∈ sorts3) : ∃ v, callF defs (n + 3) F.law_value [.int c, kindD s m] = .ok v ∧ (Val s v ∨ (m = true ∧ v = .none)) := by
  have m1 : callF defs (n + 2) F.law_mix [.int c, .int 9941, .int 3] = .ok (.int (mix c 9941 3)) := mix_eq (n + 1) c 9941 3 (by omega) (by omega) (by omega)
  have m2 : callF defs (n + 2) F.law_mix [.int c, .int 9931, .int 7] = .ok (.int (mix c 9931 7)) := mix_eq (n + 1) c 9931 7 (by omega) (by omega) (by omega)
  have m3 : callF defs (n + 2) F.law_mix [.int c, .int 9929, .int 2] = .ok (.int (mix c 9929 2)) := mix_eq (n + 1) c 9929 2 (by omega) (by omega) (by omega)
  obtain ⟨r1, r2⟩ := mix_range c 9931 (m := 7) (by omega)
  obtain ⟨x, hx, x1, x2⟩ := text_drawn n c
  have k1 : (w_text == w_whole) = false := by decide +kernel
  have k2 : (w_truth == w_whole) = false := by decide +kernel
  have k3 : (w_text == w_truth) = false := by decide +kernel
  rw [u_law_value]
  by_cases hg : m = true ∧ mix c 9941 3 = 0
  · obtain ⟨rfl, hg⟩ := hg
    have hg' : (mix c 9941 3 == 0) = true := by simp [hg]
    exact ⟨.none, by simp only [evalSs, evalS, evalE, evalEs, evalIT, Res.bind_ok, Res.bind_bad, Res.bind_exc, Res.tame_ok, Fl.go_next, Fl.go_ret, Fl.fin_next, Fl.fin_ret, slot_some, List.getElem?_cons_zero, List.getElem?_cons_succ, List.set_cons_zero, List.set_cons_succ, put_nm, put_tu, puts_nil, puts_cons, chainK_t, chainK_f, truth_bool, truth_none, truth_int, truth_list, truth_tuple, truth_str, o2_add_i, o2_sub_i, o2_lt_i, o2_le_i, o2_gt_i, o2_ge_i, o2_is_n, o2_is_b, o2_isnot_n, o2_isnot_b, o2_eq_i, o2_eq_s, o2_eq_ns, o2_eq_b, o2_ne_b, o2_idx_t0, o2_idx_t1, o1_len_scr, o1_len_t, o1_len_l, o1_len_s, o1_not_b, o1_tuple_l, o1_list_t, o1_list_l, o1_rev_t, o1_neg_i, o1_int_b, isi_s, isi_i, isi_b, isi_n, isi_t, isi_l, isTy, isNone_n, isNone_b, isNone_i, isNone_s, isNone_t, isNone_l, isBool_b, Bool.not_true, Bool.not_false, eq_self, if_true, if_false, Bool.false_eq_true, reduceIte, beq_self_eq_true, f_law_value, m1, hg'], .inr ⟨rfl, rfl⟩⟩
  · simp only [sorts3, List.mem_cons, List.not_mem_nil, or_false] at hs
    cases m with
    | false =>
      rcases hs with rfl | rfl | rfl
      · exact ⟨.int (mix c 9931 7 - 3), by simp only [evalSs, evalS, evalE, evalEs, evalIT, Res.bind_ok, Res.bind_bad, Res.bind_exc, Res.tame_ok, Fl.go_next, Fl.go_ret, Fl.fin_next, Fl.fin_ret, slot_some, List.getElem?_cons_zero, List.getElem?_cons_succ, List.set_cons_zero, List.set_cons_succ, put_nm, put_tu, puts_nil, puts_cons, chainK_t, chainK_f, truth_bool, truth_none, truth_int, truth_list, truth_tuple, truth_str, o2_add_i, o2_sub_i, o2_lt_i, o2_le_i, o2_gt_i, o2_ge_i, o2_is_n, o2_is_b, o2_isnot_n, o2_isnot_b, o2_eq_i, o2_eq_s, o2_eq_ns, o2_eq_b, o2_ne_b, o2_idx_t0, o2_idx_t1, o1_len_scr, o1_len_t, o1_len_l, o1_len_s, o1_not_b, o1_tuple_l, o1_list_t, o1_list_l, o1_rev_t, o1_neg_i, o1_int_b, isi_s, isi_i, isi_b, isi_n, isi_t, isi_l, isTy, isNone_n, isNone_b, isNone_i, isNone_s, isNone_t, isNone_l, isBool_b, Bool.not_true, Bool.not_false, eq_self, if_true, if_false, Bool.false_eq_true, reduceIte, beq_self_eq_true, f_law_value, m2], .inl (.whole _ (by omega) (by omega))⟩
      · exact ⟨_, by simp only [evalSs, evalS, evalE, evalEs, evalIT, Res.bind_ok, Res.bind_bad, Res.bind_exc, Res.tame_ok, Fl.go_next, Fl.go_ret, Fl.fin_next, Fl.fin_ret, slot_some, List.getElem?_cons_zero, List.getElem?_cons_succ, List.set_cons_zero, List.set_cons_succ, put_nm, put_tu, puts_nil, puts_cons, chainK_t, chainK_f, truth_bool, truth_none, truth_int, truth_list, truth_tuple, truth_str, o2_add_i, o2_sub_i, o2_lt_i, o2_le_i, o2_gt_i, o2_ge_i, o2_is_n, o2_is_b, o2_isnot_n, o2_isnot_b, o2_eq_i, o2_eq_s, o2_eq_ns, o2_eq_b, o2_ne_b, o2_idx_t0, o2_idx_t1, o1_len_scr, o1_len_t, o1_len_l, o1_len_s, o1_not_b, o1_tuple_l, o1_list_t, o1_list_l, o1_rev_t, o1_neg_i, o1_int_b, isi_s, isi_i, isi_b, isi_n, isi_t, isi_l, isTy, isNone_n, isNone_b, isNone_i, isNone_s, isNone_t, isNone_l, isBool_b, Bool.not_true, Bool.not_false, eq_self, if_true, if_false, Bool.false_eq_true, reduceIte, beq_self_eq_true, f_law_value, hx, k1, k3], .inl (.text x x1 x2)⟩
      · exact ⟨.bool (mix c 9929 2 == 0), by simp only [evalSs, evalS, evalE, evalEs, evalIT, Res.bind_ok, Res.bind_bad, Res.bind_exc, Res.tame_ok, Fl.go_next, Fl.go_ret, Fl.fin_next, Fl.fin_ret, slot_some, List.getElem?_cons_zero, List.getElem?_cons_succ, List.set_cons_zero, List.set_cons_succ, put_nm, put_tu, puts_nil, puts_cons, chainK_t, chainK_f, truth_bool, truth_none, truth_int, truth_list, truth_tuple, truth_str, o2_add_i, o2_sub_i, o2_lt_i, o2_le_i, o2_gt_i, o2_ge_i, o2_is_n, o2_is_b, o2_isnot_n, o2_isnot_b, o2_eq_i, o2_eq_s, o2_eq_ns, o2_eq_b, o2_ne_b, o2_idx_t0, o2_idx_t1, o1_len_scr, o1_len_t, o1_len_l, o1_len_s, o1_not_b, o1_tuple_l, o1_list_t, o1_list_l, o1_rev_t, o1_neg_i, o1_int_b, isi_s, isi_i, isi_b, isi_n, isi_t, isi_l, isTy, isNone_n, isNone_b, isNone_i, isNone_s, isNone_t, isNone_l, isBool_b, Bool.not_true, Bool.not_false, eq_self, if_true, if_false, Bool.false_eq_true, reduceIte, beq_self_eq_true, f_law_value, m3, k2], .inl (.truth _)⟩
    | true =>
      have h0 : (mix c 9941 3 == 0) = false := by simpa using hg
      rcases hs with rfl | rfl | rfl
      · exact ⟨.int (mix c 9931 7 - 3), by simp only [evalSs, evalS, evalE, evalEs, evalIT, Res.bind_ok, Res.bind_bad, Res.bind_exc, Res.tame_ok, Fl.go_next, Fl.go_ret, Fl.fin_next, Fl.fin_ret, slot_some, List.getElem?_cons_zero, List.getElem?_cons_succ, List.set_cons_zero, List.set_cons_succ, put_nm, put_tu, puts_nil, puts_cons, chainK_t, chainK_f, truth_bool, truth_none, truth_int, truth_list, truth_tuple, truth_str, o2_add_i, o2_sub_i, o2_lt_i, o2_le_i, o2_gt_i, o2_ge_i, o2_is_n, o2_is_b, o2_isnot_n, o2_isnot_b, o2_eq_i, o2_eq_s, o2_eq_ns, o2_eq_b, o2_ne_b, o2_idx_t0, o2_idx_t1, o1_len_scr, o1_len_t, o1_len_l, o1_len_s, o1_not_b, o1_tuple_l, o1_list_t, o1_list_l, o1_rev_t, o1_neg_i, o1_int_b, isi_s, isi_i, isi_b, isi_n, isi_t, isi_l, isTy, isNone_n, isNone_b, isNone_i, isNone_s, isNone_t, isNone_l, isBool_b, Bool.not_true, Bool.not_false, eq_self, if_true, if_false, Bool.false_eq_true, reduceIte, beq_self_eq_true, f_law_value, m1, h0, m2], .inl (.whole _ (by omega) (by omega))⟩
      · exact ⟨_, by simp only [evalSs, evalS, evalE, evalEs, evalIT, Res.bind_ok, Res.bind_bad, Res.bind_exc, Res.tame_ok, Fl.go_next, Fl.go_ret, Fl.fin_next, Fl.fin_ret, slot_some, List.getElem?_cons_zero, List.getElem?_cons_succ, List.set_cons_zero, List.set_cons_succ, put_nm, put_tu, puts_nil, puts_cons, chainK_t, chainK_f, truth_bool, truth_none, truth_int, truth_list, truth_tuple, truth_str, o2_add_i, o2_sub_i, o2_lt_i, o2_le_i, o2_gt_i, o2_ge_i, o2_is_n, o2_is_b, o2_isnot_n, o2_isnot_b, o2_eq_i, o2_eq_s, o2_eq_ns, o2_eq_b, o2_ne_b, o2_idx_t0, o2_idx_t1, o1_len_scr, o1_len_t, o1_len_l, o1_len_s, o1_not_b, o1_tuple_l, o1_list_t, o1_list_l, o1_rev_t, o1_neg_i, o1_int_b, isi_s, isi_i, isi_b, isi_n, isi_t, isi_l, isTy, isNone_n, isNone_b, isNone_i, isNone_s, isNone_t, isNone_l, isBool_b, Bool.not_true, Bool.not_false, eq_self, if_true, if_false, Bool.false_eq_true, reduceIte, beq_self_eq_true, f_law_value, m1, h0, hx, k1, k3], .inl (.text x x1 x2)⟩
      · exact ⟨.bool (mix c 9929 2 == 0), by simp only [evalSs, evalS, evalE, evalEs, evalIT, Res.bind_ok, Res.bind_bad, Res.bind_exc, Res.tame_ok, Fl.go_next, Fl.go_ret, Fl.fin_next, Fl.fin_ret, slot_some, List.getElem?_cons_zero, List.getElem?_cons_succ, List.set_cons_zero, List.set_cons_succ, put_nm, put_tu, puts_nil, puts_cons, chainK_t, chainK_f, truth_bool, truth_none, truth_int, truth_list, truth_tuple, truth_str, o2_add_i, o2_sub_i, o2_lt_i, o2_le_i, o2_gt_i, o2_ge_i, o2_is_n, o2_is_b, o2_isnot_n, o2_isnot_b, o2_eq_i, o2_eq_s, o2_eq_ns, o2_eq_b, o2_ne_b, o2_idx_t0, o2_idx_t1, o1_len_scr, o1_len_t, o1_len_l, o1_len_s, o1_not_b, o1_tuple_l, o1_list_t, o1_list_l, o1_rev_t, o1_neg_i, o1_int_b, isi_s, isi_i, isi_b, isi_n, isi_t, isi_l, isTy, isNone_n, isNone_b, isNone_i, isNone_s, isNone_t, isNone_l, isBool_b, Bool.not_true, Bool.not_false, eq_self, if_true, if_false, Bool.false_eq_true, reduceIte, beq_self_eq_true, f_law_value, m1, h0, m3, k2], .inl (.truth _)⟩
/-! names, sorts, kinds, headings: what the program tells -/
def letter (c : Nat) : Bool := decide (c ∈ w_abcdefghijklmnopqrstuvwxyz.cps.toList)
def isName : D → Bool
  | .str x => decide (1 ≤ x.length) && decide (x.length ≤ 6) && x.cps.toList.all letter
  | _ => false
def signIn (z : Str) : D → Bool
  | .str y => decide (y.cps.getD 0 0 ∈ z.cps.toList)
  | _ => false
def signsOf (x : Str) : List D := x.cps.toList.map fun c => (PyData.str ⟨#[c]⟩ : D)
theorem items_str (x : Str) : itemsOf (.str x) = .ok (signsOf x) := rfl
theorem is_name_eq (n : Nat) (d : D) (h : noDict d = true) : callF defs (n + 1) F.is_name [d] = .ok (.bool (isName d)) := by
  rw [u_is_name]
  cases d with
  | str x =>
    have hc : evalE (callF defs n) c_is_name_0 [some (.str x), none] = .ok (.list ((signsOf x).map fun d => .bool (signIn w_abcdefghijklmnopqrstuvwxyz d))) := by
      unfold c_is_name_0
      refine comp_nm (by simp only [evalSs, evalS, evalE, evalEs, evalIT, Res.bind_ok, Res.bind_bad, Res.bind_exc, Res.tame_ok, Fl.go_next, Fl.go_ret, Fl.fin_next, Fl.fin_ret, slot_some, List.getElem?_cons_zero, List.getElem?_cons_succ, List.set_cons_zero, List.set_cons_succ, put_nm, put_tu, puts_nil, puts_cons, chainK_t, chainK_f, truth_bool, truth_none, truth_int, truth_list, truth_tuple, truth_str, o2_add_i, o2_sub_i, o2_lt_i, o2_le_i, o2_gt_i, o2_ge_i, o2_is_n, o2_is_b, o2_isnot_n, o2_isnot_b, o2_eq_i, o2_eq_s, o2_eq_ns, o2_eq_b, o2_ne_b, o2_idx_t0, o2_idx_t1, o1_len_scr, o1_len_t, o1_len_l, o1_len_s, o1_not_b, o1_tuple_l, o1_list_t, o1_list_l, o1_rev_t, o1_neg_i, o1_int_b, isi_s, isi_i, isi_b, isi_n, isi_t, isi_l, isTy, isNone_n, isNone_b, isNone_i, isNone_s, isNone_t, isNone_l, isBool_b, Bool.not_true, Bool.not_false, eq_self, if_true, if_false, Bool.false_eq_true, reduceIte, beq_self_eq_true, items_str]) fun d hd => ?_
      obtain ⟨c, _, rfl⟩ := List.mem_map.mp hd
      simp only [evalSs, evalS, evalE, evalEs, evalIT, Res.bind_ok, Res.bind_bad, Res.bind_exc, Res.tame_ok, Fl.go_next, Fl.go_ret, Fl.fin_next, Fl.fin_ret, slot_some, List.getElem?_cons_zero, List.getElem?_cons_succ, List.set_cons_zero, List.set_cons_succ, put_nm, put_tu, puts_nil, puts_cons, chainK_t, chainK_f, truth_bool, truth_none, truth_int, truth_list, truth_tuple, truth_str, o2_add_i, o2_sub_i, o2_lt_i, o2_le_i, o2_gt_i, o2_ge_i, o2_is_n, o2_is_b, o2_isnot_n, o2_isnot_b, o2_eq_i, o2_eq_s, o2_eq_ns, o2_eq_b, o2_ne_b, o2_idx_t0, o2_idx_t1, o1_len_scr, o1_len_t, o1_len_l, o1_len_s, o1_not_b, o1_tuple_l, o1_list_t, o1_list_l, o1_rev_t, o1_neg_i, o1_int_b, isi_s, isi_i, isi_b, isi_n, isi_t, isi_l, isTy, isNone_n, isNone_b, isNone_i, isNone_s, isNone_t, isNone_l, isBool_b, Bool.not_true, Bool.not_false, eq_self, if_true, if_false, Bool.false_eq_true, reduceIte, beq_self_eq_true, g_LETTERS, o2_in_sign]
      rfl
    have ha : op1 .all (.list ((signsOf x).map fun d => .bool (signIn w_abcdefghijklmnopqrstuvwxyz d))) = .ok (.bool (x.cps.toList.all letter)) := by
      rw [o1_all]
      unfold signsOf
      rw [List.all_map]; rfl
    by_cases h1 : (1 : Int) ≤ x.length
    · by_cases h2 : (x.length : Int) ≤ 6
      · have e1 : 1 ≤ x.length := by omega
        have e2 : x.length ≤ 6 := by omega
        simp only [evalSs, evalS, evalE, evalEs, evalIT, Res.bind_ok, Res.bind_bad, Res.bind_exc, Res.tame_ok, Fl.go_next, Fl.go_ret, Fl.fin_next, Fl.fin_ret, slot_some, List.getElem?_cons_zero, List.getElem?_cons_succ, List.set_cons_zero, List.set_cons_succ, put_nm, put_tu, puts_nil, puts_cons, chainK_t, chainK_f, truth_bool, truth_none, truth_int, truth_list, truth_tuple, truth_str, o2_add_i, o2_sub_i, o2_lt_i, o2_le_i, o2_gt_i, o2_ge_i, o2_is_n, o2_is_b, o2_isnot_n, o2_isnot_b, o2_eq_i, o2_eq_s, o2_eq_ns, o2_eq_b, o2_ne_b, o2_idx_t0, o2_idx_t1, o1_len_scr, o1_len_t, o1_len_l, o1_len_s, o1_not_b, o1_tuple_l, o1_list_t, o1_list_l, o1_rev_t, o1_neg_i, o1_int_b, isi_s, isi_i, isi_b, isi_n, isi_t, isi_l, isTy, isNone_n, isNone_b, isNone_i, isNone_s, isNone_t, isNone_l, isBool_b, Bool.not_true, Bool.not_false, eq_self, if_true, if_false, Bool.false_eq_true, reduceIte, beq_self_eq_true, f_is_name, decide_eq_true h1, decide_eq_true h2, hc, ha, isName, decide_eq_true e1, decide_eq_true e2, Bool.true_and]
      · have e2 : ¬ x.length ≤ 6 := by omega
        simp only [evalSs, evalS, evalE, evalEs, evalIT, Res.bind_ok, Res.bind_bad, Res.bind_exc, Res.tame_ok, Fl.go_next, Fl.go_ret, Fl.fin_next, Fl.fin_ret, slot_some, List.getElem?_cons_zero, List.getElem?_cons_succ, List.set_cons_zero, List.set_cons_succ, put_nm, put_tu, puts_nil, puts_cons, chainK_t, chainK_f, truth_bool, truth_none, truth_int, truth_list, truth_tuple, truth_str, o2_add_i, o2_sub_i, o2_lt_i, o2_le_i, o2_gt_i, o2_ge_i, o2_is_n, o2_is_b, o2_isnot_n, o2_isnot_b, o2_eq_i, o2_eq_s, o2_eq_ns, o2_eq_b, o2_ne_b, o2_idx_t0, o2_idx_t1, o1_len_scr, o1_len_t, o1_len_l, o1_len_s, o1_not_b, o1_tuple_l, o1_list_t, o1_list_l, o1_rev_t, o1_neg_i, o1_int_b, isi_s, isi_i, isi_b, isi_n, isi_t, isi_l, isTy, isNone_n, isNone_b, isNone_i, isNone_s, isNone_t, isNone_l, isBool_b, Bool.not_true, Bool.not_false, eq_self, if_true, if_false, Bool.false_eq_true, reduceIte, beq_self_eq_true, f_is_name, decide_eq_true h1, decide_eq_false h2, isName, decide_eq_false e2, Bool.and_false, Bool.false_and]
    · have e1 : ¬ 1 ≤ x.length := by omega
      simp only [evalSs, evalS, evalE, evalEs, evalIT, Res.bind_ok, Res.bind_bad, Res.bind_exc, Res.tame_ok, Fl.go_next, Fl.go_ret, Fl.fin_next, Fl.fin_ret, slot_some, List.getElem?_cons_zero, List.getElem?_cons_succ, List.set_cons_zero, List.set_cons_succ, put_nm, put_tu, puts_nil, puts_cons, chainK_t, chainK_f, truth_bool, truth_none, truth_int, truth_list, truth_tuple, truth_str, o2_add_i, o2_sub_i, o2_lt_i, o2_le_i, o2_gt_i, o2_ge_i, o2_is_n, o2_is_b, o2_isnot_n, o2_isnot_b, o2_eq_i, o2_eq_s, o2_eq_ns, o2_eq_b, o2_ne_b, o2_idx_t0, o2_idx_t1, o1_len_scr, o1_len_t, o1_len_l, o1_len_s, o1_not_b, o1_tuple_l, o1_list_t, o1_list_l, o1_rev_t, o1_neg_i, o1_int_b, isi_s, isi_i, isi_b, isi_n, isi_t, isi_l, isTy, isNone_n, isNone_b, isNone_i, isNone_s, isNone_t, isNone_l, isBool_b, Bool.not_true, Bool.not_false, eq_self, if_true, if_false, Bool.false_eq_true, reduceIte, beq_self_eq_true, f_is_name, decide_eq_false h1, isName, decide_eq_false e1, Bool.false_and]
  | dict _ => simp [noDict] at h
  | _ => simp only [evalSs, evalS, evalE, evalEs, evalIT, Res.bind_ok, Res.bind_bad, Res.bind_exc, Res.tame_ok, Fl.go_next, Fl.go_ret, Fl.fin_next, Fl.fin_ret, slot_some, List.getElem?_cons_zero, List.getElem?_cons_succ, List.set_cons_zero, List.set_cons_succ, put_nm, put_tu, puts_nil, puts_cons, chainK_t, chainK_f, truth_bool, truth_none, truth_int, truth_list, truth_tuple, truth_str, o2_add_i, o2_sub_i, o2_lt_i, o2_le_i, o2_gt_i, o2_ge_i, o2_is_n, o2_is_b, o2_isnot_n, o2_isnot_b, o2_eq_i, o2_eq_s, o2_eq_ns, o2_eq_b, o2_ne_b, o2_idx_t0, o2_idx_t1, o1_len_scr, o1_len_t, o1_len_l, o1_len_s, o1_not_b, o1_tuple_l, o1_list_t, o1_list_l, o1_rev_t, o1_neg_i, o1_int_b, isi_s, isi_i, isi_b, isi_n, isi_t, isi_l, isTy, isNone_n, isNone_b, isNone_i, isNone_s, isNone_t, isNone_l, isBool_b, Bool.not_true, Bool.not_false, eq_self, if_true, if_false, Bool.false_eq_true, reduceIte, beq_self_eq_true, f_is_name, isName]
def isSort : D → Bool
  | .str x => decide (x ∈ sorts3)
  | _ => false
theorem sorts_any (x : Str) : ([PyData.str w_whole, .str w_text, .str w_truth].any fun z => PyData.eqv z (.str x)) = decide (x ∈ sorts3) := by
  have e : ∀ y : Str, PyData.eqv (.str y) (.str x) = (y == x) := fun y => by simp [PyData.eqv]
  have hm : x ∈ sorts3 ↔ x = w_whole ∨ x = w_text ∨ x = w_truth := by
    unfold sorts3
    rw [List.mem_cons, List.mem_cons, List.mem_singleton]
  rw [List.any_cons, List.any_cons, List.any_cons, List.any_nil, e, e, e, Bool.or_false]
  rw [Bool.eq_iff_iff, decide_eq_true_iff, hm, Bool.or_eq_true, Bool.or_eq_true, beq_iff_eq, beq_iff_eq, beq_iff_eq, eq_comm (a := x), eq_comm (a := x), eq_comm (a := x)]
theorem inOk_flat {a : D} {ds : List D} (ha : noDict a = true) (hd : noDicts ds = true) (h : PyData.depthAll ds ≤ 60) : inOk a ds = true := by
  unfold inOk
  rw [ha, hd]
  exact decide_eq_true (by omega)
theorem sorts_flat : noDicts [PyData.str w_whole, .str w_text, .str w_truth] = true ∧ PyData.depthAll [PyData.str w_whole, .str w_text, .str w_truth] ≤ 60 := ⟨by simp [noDicts, noDict], by simp [PyData.depthAll, PyData.depth]⟩
theorem is_sort_eq (n : Nat) (d : D) (h : noDict d = true) : callF defs (n + 1) F.is_sort [d] = .ok (.bool (isSort d)) := by
  rw [u_is_sort]
  cases d with
  | str x =>
    have := o2_in (a := .str x) (inOk_flat (by simp [noDict]) sorts_flat.1 sorts_flat.2)
    simp only [evalSs, evalS, evalE, evalEs, evalIT, Res.bind_ok, Res.bind_bad, Res.bind_exc, Res.tame_ok, Fl.go_next, Fl.go_ret, Fl.fin_next, Fl.fin_ret, slot_some, List.getElem?_cons_zero, List.getElem?_cons_succ, List.set_cons_zero, List.set_cons_succ, put_nm, put_tu, puts_nil, puts_cons, chainK_t, chainK_f, truth_bool, truth_none, truth_int, truth_list, truth_tuple, truth_str, o2_add_i, o2_sub_i, o2_lt_i, o2_le_i, o2_gt_i, o2_ge_i, o2_is_n, o2_is_b, o2_isnot_n, o2_isnot_b, o2_eq_i, o2_eq_s, o2_eq_ns, o2_eq_b, o2_ne_b, o2_idx_t0, o2_idx_t1, o1_len_scr, o1_len_t, o1_len_l, o1_len_s, o1_not_b, o1_tuple_l, o1_list_t, o1_list_l, o1_rev_t, o1_neg_i, o1_int_b, isi_s, isi_i, isi_b, isi_n, isi_t, isi_l, isTy, isNone_n, isNone_b, isNone_i, isNone_s, isNone_t, isNone_l, isBool_b, Bool.not_true, Bool.not_false, eq_self, if_true, if_false, Bool.false_eq_true, reduceIte, beq_self_eq_true, f_is_sort, g_SORTS, this, isSort, sorts_any]
  | dict _ => simp [noDict] at h
  | _ => simp only [evalSs, evalS, evalE, evalEs, evalIT, Res.bind_ok, Res.bind_bad, Res.bind_exc, Res.tame_ok, Fl.go_next, Fl.go_ret, Fl.fin_next, Fl.fin_ret, slot_some, List.getElem?_cons_zero, List.getElem?_cons_succ, List.set_cons_zero, List.set_cons_succ, put_nm, put_tu, puts_nil, puts_cons, chainK_t, chainK_f, truth_bool, truth_none, truth_int, truth_list, truth_tuple, truth_str, o2_add_i, o2_sub_i, o2_lt_i, o2_le_i, o2_gt_i, o2_ge_i, o2_is_n, o2_is_b, o2_isnot_n, o2_isnot_b, o2_eq_i, o2_eq_s, o2_eq_ns, o2_eq_b, o2_ne_b, o2_idx_t0, o2_idx_t1, o1_len_scr, o1_len_t, o1_len_l, o1_len_s, o1_not_b, o1_tuple_l, o1_list_t, o1_list_l, o1_rev_t, o1_neg_i, o1_int_b, isi_s, isi_i, isi_b, isi_n, isi_t, isi_l, isTy, isNone_n, isNone_b, isNone_i, isNone_s, isNone_t, isNone_l, isBool_b, Bool.not_true, Bool.not_false, eq_self, if_true, if_false, Bool.false_eq_true, reduceIte, beq_self_eq_true, f_is_sort, isSort]
def isKind : D → Bool
  | .tuple [a, .bool _] => isSort a
  | _ => false
theorem noDicts_mem : ∀ {ds : List D} {d : D}, noDicts ds = true → d ∈ ds → noDict d = true
  | [], _, _, h => by simp at h
  | x :: xs, d, h, hm => by
    simp only [noDicts, Bool.and_eq_true] at h
    rcases List.mem_cons.mp hm with rfl | hm
    · exact h.1
    · exact noDicts_mem h.2 hm
theorem kind_len {ds : List D} (h : ds.length ≠ 2) : isKind (.tuple ds) = false := by
  match ds, h with
  | [], _ => rfl
  | [_], _ => rfl
  | [_, _], h => exact absurd rfl h
  | _ :: b :: _ :: _, _ => cases b <;> rfl
theorem is_kind_eq (n : Nat) (d : D) (h : noDict d = true) : callF defs (n + 2) F.is_kind [d] = .ok (.bool (isKind d)) := by
  rw [u_is_kind]
  cases d with
  | tuple ds =>
    by_cases hl : ds.length = 2
    · match ds, hl, h with
      | [a, b], _, h =>
        simp only [noDict, noDicts, Bool.and_eq_true] at h
        have hs := is_sort_eq n a h.1
        have l2 : (([a, b] : List D).length : Int) = 2 := rfl
        cases hq : isSort a with
        | false =>
          rw [hq] at hs
          have e : isKind (.tuple [a, b]) = false := by cases b <;> simp [isKind, hq]
          simp only [evalSs, evalS, evalE, evalEs, evalIT, Res.bind_ok, Res.bind_bad, Res.bind_exc, Res.tame_ok, Fl.go_next, Fl.go_ret, Fl.fin_next, Fl.fin_ret, slot_some, List.getElem?_cons_zero, List.getElem?_cons_succ, List.set_cons_zero, List.set_cons_succ, put_nm, put_tu, puts_nil, puts_cons, chainK_t, chainK_f, truth_bool, truth_none, truth_int, truth_list, truth_tuple, truth_str, o2_add_i, o2_sub_i, o2_lt_i, o2_le_i, o2_gt_i, o2_ge_i, o2_is_n, o2_is_b, o2_isnot_n, o2_isnot_b, o2_eq_i, o2_eq_s, o2_eq_ns, o2_eq_b, o2_ne_b, o2_idx_t0, o2_idx_t1, o1_len_scr, o1_len_t, o1_len_l, o1_len_s, o1_not_b, o1_tuple_l, o1_list_t, o1_list_l, o1_rev_t, o1_neg_i, o1_int_b, isi_s, isi_i, isi_b, isi_n, isi_t, isi_l, isTy, isNone_n, isNone_b, isNone_i, isNone_s, isNone_t, isNone_l, isBool_b, Bool.not_true, Bool.not_false, eq_self, if_true, if_false, Bool.false_eq_true, reduceIte, beq_self_eq_true, f_is_kind, l2, hs, e]
        | true =>
          rw [hq] at hs
          cases b <;> first | (simp [noDict] at h; done) | simp only [evalSs, evalS, evalE, evalEs, evalIT, Res.bind_ok, Res.bind_bad, Res.bind_exc, Res.tame_ok, Fl.go_next, Fl.go_ret, Fl.fin_next, Fl.fin_ret, slot_some, List.getElem?_cons_zero, List.getElem?_cons_succ, List.set_cons_zero, List.set_cons_succ, put_nm, put_tu, puts_nil, puts_cons, chainK_t, chainK_f, truth_bool, truth_none, truth_int, truth_list, truth_tuple, truth_str, o2_add_i, o2_sub_i, o2_lt_i, o2_le_i, o2_gt_i, o2_ge_i, o2_is_n, o2_is_b, o2_isnot_n, o2_isnot_b, o2_eq_i, o2_eq_s, o2_eq_ns, o2_eq_b, o2_ne_b, o2_idx_t0, o2_idx_t1, o1_len_scr, o1_len_t, o1_len_l, o1_len_s, o1_not_b, o1_tuple_l, o1_list_t, o1_list_l, o1_rev_t, o1_neg_i, o1_int_b, isi_s, isi_i, isi_b, isi_n, isi_t, isi_l, isTy, isNone_n, isNone_b, isNone_i, isNone_s, isNone_t, isNone_l, isBool_b, Bool.not_true, Bool.not_false, eq_self, if_true, if_false, Bool.false_eq_true, reduceIte, beq_self_eq_true, f_is_kind, l2, hs, isKind, hq]
    · have e : ((ds.length : Int) == 2) = false := by rw [beq_eq_false_iff_ne]; omega
      simp only [evalSs, evalS, evalE, evalEs, evalIT, Res.bind_ok, Res.bind_bad, Res.bind_exc, Res.tame_ok, Fl.go_next, Fl.go_ret, Fl.fin_next, Fl.fin_ret, slot_some, List.getElem?_cons_zero, List.getElem?_cons_succ, List.set_cons_zero, List.set_cons_succ, put_nm, put_tu, puts_nil, puts_cons, chainK_t, chainK_f, truth_bool, truth_none, truth_int, truth_list, truth_tuple, truth_str, o2_add_i, o2_sub_i, o2_lt_i, o2_le_i, o2_gt_i, o2_ge_i, o2_is_n, o2_is_b, o2_isnot_n, o2_isnot_b, o2_eq_i, o2_eq_s, o2_eq_ns, o2_eq_b, o2_ne_b, o2_idx_t0, o2_idx_t1, o1_len_scr, o1_len_t, o1_len_l, o1_len_s, o1_not_b, o1_tuple_l, o1_list_t, o1_list_l, o1_rev_t, o1_neg_i, o1_int_b, isi_s, isi_i, isi_b, isi_n, isi_t, isi_l, isTy, isNone_n, isNone_b, isNone_i, isNone_s, isNone_t, isNone_l, isBool_b, Bool.not_true, Bool.not_false, eq_self, if_true, if_false, Bool.false_eq_true, reduceIte, beq_self_eq_true, f_is_kind, e, kind_len hl]
  | dict _ => simp [noDict] at h
  | _ => simp only [evalSs, evalS, evalE, evalEs, evalIT, Res.bind_ok, Res.bind_bad, Res.bind_exc, Res.tame_ok, Fl.go_next, Fl.go_ret, Fl.fin_next, Fl.fin_ret, slot_some, List.getElem?_cons_zero, List.getElem?_cons_succ, List.set_cons_zero, List.set_cons_succ, put_nm, put_tu, puts_nil, puts_cons, chainK_t, chainK_f, truth_bool, truth_none, truth_int, truth_list, truth_tuple, truth_str, o2_add_i, o2_sub_i, o2_lt_i, o2_le_i, o2_gt_i, o2_ge_i, o2_is_n, o2_is_b, o2_isnot_n, o2_isnot_b, o2_eq_i, o2_eq_s, o2_eq_ns, o2_eq_b, o2_ne_b, o2_idx_t0, o2_idx_t1, o1_len_scr, o1_len_t, o1_len_l, o1_len_s, o1_not_b, o1_tuple_l, o1_list_t, o1_list_l, o1_rev_t, o1_neg_i, o1_int_b, isi_s, isi_i, isi_b, isi_n, isi_t, isi_l, isTy, isNone_n, isNone_b, isNone_i, isNone_s, isNone_t, isNone_l, isBool_b, Bool.not_true, Bool.not_false, eq_self, if_true, if_false, Bool.false_eq_true, reduceIte, beq_self_eq_true, f_is_kind, isKind]
def isPair : D → Bool
  | .tuple [_, _] => true
  | _ => false
theorem pair_len {ds : List D} : isPair (.tuple ds) = decide (ds.length = 2) := by
  match ds with
  | [] => rfl
  | [_] => rfl
  | [_, _] => rfl
  | _ :: _ :: _ :: _ => rfl
theorem int_eq (n m : Nat) : ((n : Int) == (m : Int)) = decide (n = m) := by
  by_cases h : n = m
  · subst h; simp
  · rw [decide_eq_false h, beq_eq_false_iff_ne]; omega
theorem are_tuples_eq (n : Nat) (d : D) (h : noDict d = true) : callF defs (n + 1) F.are_tuples [d, .int 2] = .ok (.bool (match d with | .tuple ds => ds.all isPair | _ => false)) := by
  rw [u_are_tuples]
  cases d with
  | tuple ds =>
    have hc : evalE (callF defs n) c_are_tuples_0 [some (.tuple ds), some (.int 2), none] = .ok (.list (ds.map fun d => .bool (isPair d))) := by
      unfold c_are_tuples_0
      refine comp_nm (by simp only [evalSs, evalS, evalE, evalEs, evalIT, Res.bind_ok, Res.bind_bad, Res.bind_exc, Res.tame_ok, Fl.go_next, Fl.go_ret, Fl.fin_next, Fl.fin_ret, slot_some, List.getElem?_cons_zero, List.getElem?_cons_succ, List.set_cons_zero, List.set_cons_succ, put_nm, put_tu, puts_nil, puts_cons, chainK_t, chainK_f, truth_bool, truth_none, truth_int, truth_list, truth_tuple, truth_str, o2_add_i, o2_sub_i, o2_lt_i, o2_le_i, o2_gt_i, o2_ge_i, o2_is_n, o2_is_b, o2_isnot_n, o2_isnot_b, o2_eq_i, o2_eq_s, o2_eq_ns, o2_eq_b, o2_ne_b, o2_idx_t0, o2_idx_t1, o1_len_scr, o1_len_t, o1_len_l, o1_len_s, o1_not_b, o1_tuple_l, o1_list_t, o1_list_l, o1_rev_t, o1_neg_i, o1_int_b, isi_s, isi_i, isi_b, isi_n, isi_t, isi_l, isTy, isNone_n, isNone_b, isNone_i, isNone_s, isNone_t, isNone_l, isBool_b, Bool.not_true, Bool.not_false, eq_self, if_true, if_false, Bool.false_eq_true, reduceIte, beq_self_eq_true, itemsOf]) fun d hd => ?_
      have hn := noDicts_mem (show noDicts ds = true by simpa [noDict] using h) hd
      cases d with
      | tuple es =>
        have : ((es.length : Int) == 2) = isPair (.tuple es) := by rw [pair_len]; exact int_eq _ 2
        simp only [evalSs, evalS, evalE, evalEs, evalIT, Res.bind_ok, Res.bind_bad, Res.bind_exc, Res.tame_ok, Fl.go_next, Fl.go_ret, Fl.fin_next, Fl.fin_ret, slot_some, List.getElem?_cons_zero, List.getElem?_cons_succ, List.set_cons_zero, List.set_cons_succ, put_nm, put_tu, puts_nil, puts_cons, chainK_t, chainK_f, truth_bool, truth_none, truth_int, truth_list, truth_tuple, truth_str, o2_add_i, o2_sub_i, o2_lt_i, o2_le_i, o2_gt_i, o2_ge_i, o2_is_n, o2_is_b, o2_isnot_n, o2_isnot_b, o2_eq_i, o2_eq_s, o2_eq_ns, o2_eq_b, o2_ne_b, o2_idx_t0, o2_idx_t1, o1_len_scr, o1_len_t, o1_len_l, o1_len_s, o1_not_b, o1_tuple_l, o1_list_t, o1_list_l, o1_rev_t, o1_neg_i, o1_int_b, isi_s, isi_i, isi_b, isi_n, isi_t, isi_l, isTy, isNone_n, isNone_b, isNone_i, isNone_s, isNone_t, isNone_l, isBool_b, Bool.not_true, Bool.not_false, eq_self, if_true, if_false, Bool.false_eq_true, reduceIte, beq_self_eq_true, this]
      | dict _ => simp [noDict] at hn
      | _ => simp only [evalSs, evalS, evalE, evalEs, evalIT, Res.bind_ok, Res.bind_bad, Res.bind_exc, Res.tame_ok, Fl.go_next, Fl.go_ret, Fl.fin_next, Fl.fin_ret, slot_some, List.getElem?_cons_zero, List.getElem?_cons_succ, List.set_cons_zero, List.set_cons_succ, put_nm, put_tu, puts_nil, puts_cons, chainK_t, chainK_f, truth_bool, truth_none, truth_int, truth_list, truth_tuple, truth_str, o2_add_i, o2_sub_i, o2_lt_i, o2_le_i, o2_gt_i, o2_ge_i, o2_is_n, o2_is_b, o2_isnot_n, o2_isnot_b, o2_eq_i, o2_eq_s, o2_eq_ns, o2_eq_b, o2_ne_b, o2_idx_t0, o2_idx_t1, o1_len_scr, o1_len_t, o1_len_l, o1_len_s, o1_not_b, o1_tuple_l, o1_list_t, o1_list_l, o1_rev_t, o1_neg_i, o1_int_b, isi_s, isi_i, isi_b, isi_n, isi_t, isi_l, isTy, isNone_n, isNone_b, isNone_i, isNone_s, isNone_t, isNone_l, isBool_b, Bool.not_true, Bool.not_false, eq_self, if_true, if_false, Bool.false_eq_true, reduceIte, beq_self_eq_true, isPair]
    simp only [evalSs, evalS, evalE, evalEs, evalIT, Res.bind_ok, Res.bind_bad, Res.bind_exc, Res.tame_ok, Fl.go_next, Fl.go_ret, Fl.fin_next, Fl.fin_ret, slot_some, List.getElem?_cons_zero, List.getElem?_cons_succ, List.set_cons_zero, List.set_cons_succ, put_nm, put_tu, puts_nil, puts_cons, chainK_t, chainK_f, truth_bool, truth_none, truth_int, truth_list, truth_tuple, truth_str, o2_add_i, o2_sub_i, o2_lt_i, o2_le_i, o2_gt_i, o2_ge_i, o2_is_n, o2_is_b, o2_isnot_n, o2_isnot_b, o2_eq_i, o2_eq_s, o2_eq_ns, o2_eq_b, o2_ne_b, o2_idx_t0, o2_idx_t1, o1_len_scr, o1_len_t, o1_len_l, o1_len_s, o1_not_b, o1_tuple_l, o1_list_t, o1_list_l, o1_rev_t, o1_neg_i, o1_int_b, isi_s, isi_i, isi_b, isi_n, isi_t, isi_l, isTy, isNone_n, isNone_b, isNone_i, isNone_s, isNone_t, isNone_l, isBool_b, Bool.not_true, Bool.not_false, eq_self, if_true, if_false, Bool.false_eq_true, reduceIte, beq_self_eq_true, f_are_tuples, hc, o1_all]
  | dict _ => simp [noDict] at h
  | _ => simp only [evalSs, evalS, evalE, evalEs, evalIT, Res.bind_ok, Res.bind_bad, Res.bind_exc, Res.tame_ok, Fl.go_next, Fl.go_ret, Fl.fin_next, Fl.fin_ret, slot_some, List.getElem?_cons_zero, List.getElem?_cons_succ, List.set_cons_zero, List.set_cons_succ, put_nm, put_tu, puts_nil, puts_cons, chainK_t, chainK_f, truth_bool, truth_none, truth_int, truth_list, truth_tuple, truth_str, o2_add_i, o2_sub_i, o2_lt_i, o2_le_i, o2_gt_i, o2_ge_i, o2_is_n, o2_is_b, o2_isnot_n, o2_isnot_b, o2_eq_i, o2_eq_s, o2_eq_ns, o2_eq_b, o2_ne_b, o2_idx_t0, o2_idx_t1, o1_len_scr, o1_len_t, o1_len_l, o1_len_s, o1_not_b, o1_tuple_l, o1_list_t, o1_list_l, o1_rev_t, o1_neg_i, o1_int_b, isi_s, isi_i, isi_b, isi_n, isi_t, isi_l, isTy, isNone_n, isNone_b, isNone_i, isNone_s, isNone_t, isNone_l, isBool_b, Bool.not_true, Bool.not_false, eq_self, if_true, if_false, Bool.false_eq_true, reduceIte, beq_self_eq_true, f_are_tuples]
theorem lenSet_str (xs : List Str) (h : xs.length ≤ 1000) : op1 .lenSet (.list (xs.map PyData.str)) = .ok (.int (unlike xs).length) := by
  show (match strsD (xs.map PyData.str) with | some (xs : List Str) => if decide (xs.length ≤ 1000) then Res.ok (PyData.int (unlike xs).length) else .bad | none => .bad) = _
  rw [strs_str]
  show (if decide (xs.length ≤ 1000) = true then Res.ok (PyData.int (unlike xs).length) else .bad) = _
  rw [if_pos (decide_eq_true h)]
theorem nat_beq (n m : Nat) : ((n : Int) == (m : Int)) = (n == m) := by
  rw [int_eq]
  by_cases q : n = m
  · rw [q]; simp
  · rw [decide_eq_false q, beq_eq_false_iff_ne.mpr q]
theorem unlike_eq' (n : Nat) (xs : List Str) (h : xs.length ≤ 1000) : callF defs (n + 1) F.are_unlike [.list (xs.map PyData.str)] = .ok (.bool ((unlike xs).length == xs.length)) := by
  rw [u_are_unlike]
  have e2 : (((unlike xs).length : Int) == ((xs.map PyData.str).length : Int)) = ((unlike xs).length == xs.length) := by
    rw [List.length_map]
    exact nat_beq _ _
  simp only [evalSs, evalS, evalE, evalEs, evalIT, Res.bind_ok, Res.bind_bad, Res.bind_exc, Res.tame_ok, Fl.go_next, Fl.go_ret, Fl.fin_next, Fl.fin_ret, slot_some, List.getElem?_cons_zero, List.getElem?_cons_succ, List.set_cons_zero, List.set_cons_succ, put_nm, put_tu, puts_nil, puts_cons, chainK_t, chainK_f, truth_bool, truth_none, truth_int, truth_list, truth_tuple, truth_str, o2_add_i, o2_sub_i, o2_lt_i, o2_le_i, o2_gt_i, o2_ge_i, o2_is_n, o2_is_b, o2_isnot_n, o2_isnot_b, o2_eq_i, o2_eq_s, o2_eq_ns, o2_eq_b, o2_ne_b, o2_idx_t0, o2_idx_t1, o1_len_scr, o1_len_t, o1_len_l, o1_len_s, o1_not_b, o1_tuple_l, o1_list_t, o1_list_l, o1_rev_t, o1_neg_i, o1_int_b, isi_s, isi_i, isi_b, isi_n, isi_t, isi_l, isTy, isNone_n, isNone_b, isNone_i, isNone_s, isNone_t, isNone_l, isBool_b, Bool.not_true, Bool.not_false, eq_self, if_true, if_false, Bool.false_eq_true, reduceIte, beq_self_eq_true, f_are_unlike, lenSet_str xs h, e2]
def isCol : D → Bool
  | .tuple [a, b] => isName a && isKind b
  | _ => false
def nameOf : D → Str
  | .tuple (.str x :: _) => x
  | _ => Str.empty
def isHeading : D → Bool
  | .tuple ds => !ds.isEmpty && ds.all isCol && ((unlike (ds.map nameOf)).length == ds.length)
  | _ => false
theorem isHeading_t (ds : List D) : isHeading (.tuple ds) = (!ds.isEmpty && ds.all isCol && ((unlike (ds.map nameOf)).length == ds.length)) := rfl
theorem isName_str {d : D} (h : isName d = true) : ∃ x, d = .str x := by
  cases d <;> first | exact ⟨_, rfl⟩ | cases h
theorem col_pair {d : D} (h : isCol d = true) : isPair d = true := by
  unfold isCol at h
  split at h
  · rfl
  · cases h
theorem len0 (ds : List D) : (((ds.length : Nat) : Int) == 0) = ds.isEmpty := by
  cases ds with
  | nil => rfl
  | cons _ _ => rw [beq_eq_false_iff_ne.mpr (by rw [List.length_cons]; omega)]; rfl
theorem is_heading_eq (n : Nat) (d : D) (h : noDict d = true) (hl : ∀ ds, d = .tuple ds → ds.length ≤ 1000) : callF defs (n + 3) F.is_heading [d] = .ok (.bool (isHeading d)) := by
  rw [u_is_heading]
  have ht := are_tuples_eq (n + 1) d h
  cases d with
  | tuple ds =>
    have hz := hl ds rfl
    have hn : ∀ d ∈ ds, noDict d = true := fun d hd => noDicts_mem (by simpa [noDict] using h) hd
    cases hp : ds.all isPair with
    | false =>
      simp only [hp] at ht
      have e : isHeading (.tuple ds) = false := by
        rw [isHeading_t]
        have : ds.all isCol = false := by
          rw [Bool.eq_false_iff]
          intro z
          have : ds.all isPair = true := List.all_eq_true.mpr fun x hx => col_pair (List.all_eq_true.mp z x hx)
          rw [hp] at this; cases this
        rw [this, Bool.and_false, Bool.false_and]
      simp only [evalSs, evalS, evalE, evalEs, evalIT, Res.bind_ok, Res.bind_bad, Res.bind_exc, Res.tame_ok, Fl.go_next, Fl.go_ret, Fl.fin_next, Fl.fin_ret, slot_some, List.getElem?_cons_zero, List.getElem?_cons_succ, List.set_cons_zero, List.set_cons_succ, put_nm, put_tu, puts_nil, puts_cons, chainK_t, chainK_f, truth_bool, truth_none, truth_int, truth_list, truth_tuple, truth_str, o2_add_i, o2_sub_i, o2_lt_i, o2_le_i, o2_gt_i, o2_ge_i, o2_is_n, o2_is_b, o2_isnot_n, o2_isnot_b, o2_eq_i, o2_eq_s, o2_eq_ns, o2_eq_b, o2_ne_b, o2_idx_t0, o2_idx_t1, o1_len_scr, o1_len_t, o1_len_l, o1_len_s, o1_not_b, o1_tuple_l, o1_list_t, o1_list_l, o1_rev_t, o1_neg_i, o1_int_b, isi_s, isi_i, isi_b, isi_n, isi_t, isi_l, isTy, isNone_n, isNone_b, isNone_i, isNone_s, isNone_t, isNone_l, isBool_b, Bool.not_true, Bool.not_false, eq_self, if_true, if_false, Bool.false_eq_true, reduceIte, beq_self_eq_true, f_is_heading, ht, e]
    | true =>
      simp only [hp] at ht
      cases he : ds.isEmpty with
      | true =>
        have e : isHeading (.tuple ds) = false := by rw [isHeading_t]; rw [he]; rfl
        simp only [evalSs, evalS, evalE, evalEs, evalIT, Res.bind_ok, Res.bind_bad, Res.bind_exc, Res.tame_ok, Fl.go_next, Fl.go_ret, Fl.fin_next, Fl.fin_ret, slot_some, List.getElem?_cons_zero, List.getElem?_cons_succ, List.set_cons_zero, List.set_cons_succ, put_nm, put_tu, puts_nil, puts_cons, chainK_t, chainK_f, truth_bool, truth_none, truth_int, truth_list, truth_tuple, truth_str, o2_add_i, o2_sub_i, o2_lt_i, o2_le_i, o2_gt_i, o2_ge_i, o2_is_n, o2_is_b, o2_isnot_n, o2_isnot_b, o2_eq_i, o2_eq_s, o2_eq_ns, o2_eq_b, o2_ne_b, o2_idx_t0, o2_idx_t1, o1_len_scr, o1_len_t, o1_len_l, o1_len_s, o1_not_b, o1_tuple_l, o1_list_t, o1_list_l, o1_rev_t, o1_neg_i, o1_int_b, isi_s, isi_i, isi_b, isi_n, isi_t, isi_l, isTy, isNone_n, isNone_b, isNone_i, isNone_s, isNone_t, isNone_l, isBool_b, Bool.not_true, Bool.not_false, eq_self, if_true, if_false, Bool.false_eq_true, reduceIte, beq_self_eq_true, f_is_heading, ht, len0, he, e]
      | false =>
        have c1 : evalE (callF defs (n + 2)) c_is_heading_1 [some (.tuple ds), none, none] = .ok (.list (ds.map fun d => .bool (isCol d))) := by
          unfold c_is_heading_1
          refine comp_any (by simp only [evalSs, evalS, evalE, evalEs, evalIT, Res.bind_ok, Res.bind_bad, Res.bind_exc, Res.tame_ok, Fl.go_next, Fl.go_ret, Fl.fin_next, Fl.fin_ret, slot_some, List.getElem?_cons_zero, List.getElem?_cons_succ, List.set_cons_zero, List.set_cons_succ, put_nm, put_tu, puts_nil, puts_cons, chainK_t, chainK_f, truth_bool, truth_none, truth_int, truth_list, truth_tuple, truth_str, o2_add_i, o2_sub_i, o2_lt_i, o2_le_i, o2_gt_i, o2_ge_i, o2_is_n, o2_is_b, o2_isnot_n, o2_isnot_b, o2_eq_i, o2_eq_s, o2_eq_ns, o2_eq_b, o2_ne_b, o2_idx_t0, o2_idx_t1, o1_len_scr, o1_len_t, o1_len_l, o1_len_s, o1_not_b, o1_tuple_l, o1_list_t, o1_list_l, o1_rev_t, o1_neg_i, o1_int_b, isi_s, isi_i, isi_b, isi_n, isi_t, isi_l, isTy, isNone_n, isNone_b, isNone_i, isNone_s, isNone_t, isNone_l, isBool_b, Bool.not_true, Bool.not_false, eq_self, if_true, if_false, Bool.false_eq_true, reduceIte, beq_self_eq_true, itemsOf]) fun d hd => ?_
          have hpd := List.all_eq_true.mp hp d hd
          have hnd := hn d hd
          unfold isPair at hpd
          split at hpd
          · rename_i a b
            simp only [noDict, noDicts, Bool.and_eq_true] at hnd
            refine ⟨_, by simp only [evalSs, evalS, evalE, evalEs, evalIT, Res.bind_ok, Res.bind_bad, Res.bind_exc, Res.tame_ok, Fl.go_next, Fl.go_ret, Fl.fin_next, Fl.fin_ret, slot_some, List.getElem?_cons_zero, List.getElem?_cons_succ, List.set_cons_zero, List.set_cons_succ, put_nm, put_tu, puts_nil, puts_cons, chainK_t, chainK_f, truth_bool, truth_none, truth_int, truth_list, truth_tuple, truth_str, o2_add_i, o2_sub_i, o2_lt_i, o2_le_i, o2_gt_i, o2_ge_i, o2_is_n, o2_is_b, o2_isnot_n, o2_isnot_b, o2_eq_i, o2_eq_s, o2_eq_ns, o2_eq_b, o2_ne_b, o2_idx_t0, o2_idx_t1, o1_len_scr, o1_len_t, o1_len_l, o1_len_s, o1_not_b, o1_tuple_l, o1_list_t, o1_list_l, o1_rev_t, o1_neg_i, o1_int_b, isi_s, isi_i, isi_b, isi_n, isi_t, isi_l, isTy, isNone_n, isNone_b, isNone_i, isNone_s, isNone_t, isNone_l, isBool_b, Bool.not_true, Bool.not_false, eq_self, if_true, if_false, Bool.false_eq_true, reduceIte, beq_self_eq_true]; rfl, ?_⟩
            have i1 := is_name_eq (n + 1) a hnd.1
            have i2 := is_kind_eq n b hnd.2.1
            cases q : isName a with
            | false => rw [q] at i1; simp only [evalSs, evalS, evalE, evalEs, evalIT, Res.bind_ok, Res.bind_bad, Res.bind_exc, Res.tame_ok, Fl.go_next, Fl.go_ret, Fl.fin_next, Fl.fin_ret, slot_some, List.getElem?_cons_zero, List.getElem?_cons_succ, List.set_cons_zero, List.set_cons_succ, put_nm, put_tu, puts_nil, puts_cons, chainK_t, chainK_f, truth_bool, truth_none, truth_int, truth_list, truth_tuple, truth_str, o2_add_i, o2_sub_i, o2_lt_i, o2_le_i, o2_gt_i, o2_ge_i, o2_is_n, o2_is_b, o2_isnot_n, o2_isnot_b, o2_eq_i, o2_eq_s, o2_eq_ns, o2_eq_b, o2_ne_b, o2_idx_t0, o2_idx_t1, o1_len_scr, o1_len_t, o1_len_l, o1_len_s, o1_not_b, o1_tuple_l, o1_list_t, o1_list_l, o1_rev_t, o1_neg_i, o1_int_b, isi_s, isi_i, isi_b, isi_n, isi_t, isi_l, isTy, isNone_n, isNone_b, isNone_i, isNone_s, isNone_t, isNone_l, isBool_b, Bool.not_true, Bool.not_false, eq_self, if_true, if_false, Bool.false_eq_true, reduceIte, beq_self_eq_true, i1, isCol, q, Bool.false_and]
            | true => rw [q] at i1; simp only [evalSs, evalS, evalE, evalEs, evalIT, Res.bind_ok, Res.bind_bad, Res.bind_exc, Res.tame_ok, Fl.go_next, Fl.go_ret, Fl.fin_next, Fl.fin_ret, slot_some, List.getElem?_cons_zero, List.getElem?_cons_succ, List.set_cons_zero, List.set_cons_succ, put_nm, put_tu, puts_nil, puts_cons, chainK_t, chainK_f, truth_bool, truth_none, truth_int, truth_list, truth_tuple, truth_str, o2_add_i, o2_sub_i, o2_lt_i, o2_le_i, o2_gt_i, o2_ge_i, o2_is_n, o2_is_b, o2_isnot_n, o2_isnot_b, o2_eq_i, o2_eq_s, o2_eq_ns, o2_eq_b, o2_ne_b, o2_idx_t0, o2_idx_t1, o1_len_scr, o1_len_t, o1_len_l, o1_len_s, o1_not_b, o1_tuple_l, o1_list_t, o1_list_l, o1_rev_t, o1_neg_i, o1_int_b, isi_s, isi_i, isi_b, isi_n, isi_t, isi_l, isTy, isNone_n, isNone_b, isNone_i, isNone_s, isNone_t, isNone_l, isBool_b, Bool.not_true, Bool.not_false, eq_self, if_true, if_false, Bool.false_eq_true, reduceIte, beq_self_eq_true, i1, i2, isCol, q, Bool.true_and]
          · cases hpd
        cases ha : ds.all isCol with
        | false =>
          have e : isHeading (.tuple ds) = false := by rw [isHeading_t]; rw [ha, Bool.and_false, Bool.false_and]
          simp only [evalSs, evalS, evalE, evalEs, evalIT, Res.bind_ok, Res.bind_bad, Res.bind_exc, Res.tame_ok, Fl.go_next, Fl.go_ret, Fl.fin_next, Fl.fin_ret, slot_some, List.getElem?_cons_zero, List.getElem?_cons_succ, List.set_cons_zero, List.set_cons_succ, put_nm, put_tu, puts_nil, puts_cons, chainK_t, chainK_f, truth_bool, truth_none, truth_int, truth_list, truth_tuple, truth_str, o2_add_i, o2_sub_i, o2_lt_i, o2_le_i, o2_gt_i, o2_ge_i, o2_is_n, o2_is_b, o2_isnot_n, o2_isnot_b, o2_eq_i, o2_eq_s, o2_eq_ns, o2_eq_b, o2_ne_b, o2_idx_t0, o2_idx_t1, o1_len_scr, o1_len_t, o1_len_l, o1_len_s, o1_not_b, o1_tuple_l, o1_list_t, o1_list_l, o1_rev_t, o1_neg_i, o1_int_b, isi_s, isi_i, isi_b, isi_n, isi_t, isi_l, isTy, isNone_n, isNone_b, isNone_i, isNone_s, isNone_t, isNone_l, isBool_b, Bool.not_true, Bool.not_false, eq_self, if_true, if_false, Bool.false_eq_true, reduceIte, beq_self_eq_true, f_is_heading, ht, len0, he, c1, o1_all, ha, e]
        | true =>
          have c0 : evalE (callF defs (n + 2)) c_is_heading_0 [some (.tuple ds), none, none] = .ok (.list (ds.map fun d => .str (nameOf d))) := by
            unfold c_is_heading_0
            refine comp_any (by simp only [evalSs, evalS, evalE, evalEs, evalIT, Res.bind_ok, Res.bind_bad, Res.bind_exc, Res.tame_ok, Fl.go_next, Fl.go_ret, Fl.fin_next, Fl.fin_ret, slot_some, List.getElem?_cons_zero, List.getElem?_cons_succ, List.set_cons_zero, List.set_cons_succ, put_nm, put_tu, puts_nil, puts_cons, chainK_t, chainK_f, truth_bool, truth_none, truth_int, truth_list, truth_tuple, truth_str, o2_add_i, o2_sub_i, o2_lt_i, o2_le_i, o2_gt_i, o2_ge_i, o2_is_n, o2_is_b, o2_isnot_n, o2_isnot_b, o2_eq_i, o2_eq_s, o2_eq_ns, o2_eq_b, o2_ne_b, o2_idx_t0, o2_idx_t1, o1_len_scr, o1_len_t, o1_len_l, o1_len_s, o1_not_b, o1_tuple_l, o1_list_t, o1_list_l, o1_rev_t, o1_neg_i, o1_int_b, isi_s, isi_i, isi_b, isi_n, isi_t, isi_l, isTy, isNone_n, isNone_b, isNone_i, isNone_s, isNone_t, isNone_l, isBool_b, Bool.not_true, Bool.not_false, eq_self, if_true, if_false, Bool.false_eq_true, reduceIte, beq_self_eq_true, itemsOf]) fun d hd => ?_
            have hcd := List.all_eq_true.mp ha d hd
            unfold isCol at hcd
            split at hcd
            · rename_i a b
              simp only [Bool.and_eq_true] at hcd
              obtain ⟨x, rfl⟩ := isName_str hcd.1
              exact ⟨_, by simp only [evalSs, evalS, evalE, evalEs, evalIT, Res.bind_ok, Res.bind_bad, Res.bind_exc, Res.tame_ok, Fl.go_next, Fl.go_ret, Fl.fin_next, Fl.fin_ret, slot_some, List.getElem?_cons_zero, List.getElem?_cons_succ, List.set_cons_zero, List.set_cons_succ, put_nm, put_tu, puts_nil, puts_cons, chainK_t, chainK_f, truth_bool, truth_none, truth_int, truth_list, truth_tuple, truth_str, o2_add_i, o2_sub_i, o2_lt_i, o2_le_i, o2_gt_i, o2_ge_i, o2_is_n, o2_is_b, o2_isnot_n, o2_isnot_b, o2_eq_i, o2_eq_s, o2_eq_ns, o2_eq_b, o2_ne_b, o2_idx_t0, o2_idx_t1, o1_len_scr, o1_len_t, o1_len_l, o1_len_s, o1_not_b, o1_tuple_l, o1_list_t, o1_list_l, o1_rev_t, o1_neg_i, o1_int_b, isi_s, isi_i, isi_b, isi_n, isi_t, isi_l, isTy, isNone_n, isNone_b, isNone_i, isNone_s, isNone_t, isNone_l, isBool_b, Bool.not_true, Bool.not_false, eq_self, if_true, if_false, Bool.false_eq_true, reduceIte, beq_self_eq_true]; rfl, by simp only [evalSs, evalS, evalE, evalEs, evalIT, Res.bind_ok, Res.bind_bad, Res.bind_exc, Res.tame_ok, Fl.go_next, Fl.go_ret, Fl.fin_next, Fl.fin_ret, slot_some, List.getElem?_cons_zero, List.getElem?_cons_succ, List.set_cons_zero, List.set_cons_succ, put_nm, put_tu, puts_nil, puts_cons, chainK_t, chainK_f, truth_bool, truth_none, truth_int, truth_list, truth_tuple, truth_str, o2_add_i, o2_sub_i, o2_lt_i, o2_le_i, o2_gt_i, o2_ge_i, o2_is_n, o2_is_b, o2_isnot_n, o2_isnot_b, o2_eq_i, o2_eq_s, o2_eq_ns, o2_eq_b, o2_ne_b, o2_idx_t0, o2_idx_t1, o1_len_scr, o1_len_t, o1_len_l, o1_len_s, o1_not_b, o1_tuple_l, o1_list_t, o1_list_l, o1_rev_t, o1_neg_i, o1_int_b, isi_s, isi_i, isi_b, isi_n, isi_t, isi_l, isTy, isNone_n, isNone_b, isNone_i, isNone_s, isNone_t, isNone_l, isBool_b, Bool.not_true, Bool.not_false, eq_self, if_true, if_false, Bool.false_eq_true, reduceIte, beq_self_eq_true, nameOf]⟩
            · cases hcd
          have hu := unlike_eq' (n + 1) (ds.map nameOf) (by rw [List.length_map]; exact hz)
          rw [List.map_map, List.length_map] at hu
          have e : isHeading (.tuple ds) = ((unlike (ds.map nameOf)).length == ds.length) := by rw [isHeading_t]; rw [ha, he]; rfl
          have hu' : callF defs (n + 2) F.are_unlike [.list (ds.map fun d => .str (nameOf d))] = .ok (.bool ((unlike (ds.map nameOf)).length == ds.length)) := hu
          simp only [evalSs, evalS, evalE, evalEs, evalIT, Res.bind_ok, Res.bind_bad, Res.bind_exc, Res.tame_ok, Fl.go_next, Fl.go_ret, Fl.fin_next, Fl.fin_ret, slot_some, List.getElem?_cons_zero, List.getElem?_cons_succ, List.set_cons_zero, List.set_cons_succ, put_nm, put_tu, puts_nil, puts_cons, chainK_t, chainK_f, truth_bool, truth_none, truth_int, truth_list, truth_tuple, truth_str, o2_add_i, o2_sub_i, o2_lt_i, o2_le_i, o2_gt_i, o2_ge_i, o2_is_n, o2_is_b, o2_isnot_n, o2_isnot_b, o2_eq_i, o2_eq_s, o2_eq_ns, o2_eq_b, o2_ne_b, o2_idx_t0, o2_idx_t1, o1_len_scr, o1_len_t, o1_len_l, o1_len_s, o1_not_b, o1_tuple_l, o1_list_t, o1_list_l, o1_rev_t, o1_neg_i, o1_int_b, isi_s, isi_i, isi_b, isi_n, isi_t, isi_l, isTy, isNone_n, isNone_b, isNone_i, isNone_s, isNone_t, isNone_l, isBool_b, Bool.not_true, Bool.not_false, eq_self, if_true, if_false, Bool.false_eq_true, reduceIte, beq_self_eq_true, f_is_heading, ht, len0, he, c1, o1_all, ha, c0, hu', e]
  | dict _ => simp [noDict] at h
  | _ => simp only [evalSs, evalS, evalE, evalEs, evalIT, Res.bind_ok, Res.bind_bad, Res.bind_exc, Res.tame_ok, Fl.go_next, Fl.go_ret, Fl.fin_next, Fl.fin_ret, slot_some, List.getElem?_cons_zero, List.getElem?_cons_succ, List.set_cons_zero, List.set_cons_succ, put_nm, put_tu, puts_nil, puts_cons, chainK_t, chainK_f, truth_bool, truth_none, truth_int, truth_list, truth_tuple, truth_str, o2_add_i, o2_sub_i, o2_lt_i, o2_le_i, o2_gt_i, o2_ge_i, o2_is_n, o2_is_b, o2_isnot_n, o2_isnot_b, o2_eq_i, o2_eq_s, o2_eq_ns, o2_eq_b, o2_ne_b, o2_idx_t0, o2_idx_t1, o1_len_scr, o1_len_t, o1_len_l, o1_len_s, o1_not_b, o1_tuple_l, o1_list_t, o1_list_l, o1_rev_t, o1_neg_i, o1_int_b, isi_s, isi_i, isi_b, isi_n, isi_t, isi_l, isTy, isNone_n, isNone_b, isNone_i, isNone_s, isNone_t, isNone_l, isBool_b, Bool.not_true, Bool.not_false, eq_self, if_true, if_false, Bool.false_eq_true, reduceIte, beq_self_eq_true, f_is_heading, ht, isHeading]
/-! drawn headings -/
abbrev Col := Str × Str × Bool
def colD (c : Col) : D := .tuple [.str c.1, kindD c.2.1 c.2.2]
def kvsOf (cols : List Col) : List (D × D) := cols.map fun c => (PyData.str c.1, kindD c.2.1 c.2.2)
def names7 : List Str := [w_a, w_b, w_c, w_d, w_e, w_long, w_xyzxyz]
structure GoodC (cols : List Col) : Prop where
  nd : (cols.map (·.1)).Nodup
  nm : ∀ c ∈ cols, c.1 ∈ names7
  kd : ∀ c ∈ cols, c.2.1 ∈ sorts3
def putC (k : Str) (v : Str × Bool) (cols : List Col) : List Col := if k ∈ cols.map (·.1) then cols.map fun c => if c.1 = k then (k, v) else c else cols ++ [(k, v)]
theorem look_kvs (k : Str) : ∀ cols : List Col, (lookD k (kvsOf cols)).isSome = decide (k ∈ cols.map (·.1))
  | [] => rfl
  | c :: cols => by
    show (if c.1 = k then some (kindD c.2.1 c.2.2) else lookD k (kvsOf cols)).isSome = _
    rw [List.map_cons, Bool.eq_iff_iff, decide_eq_true_iff, List.mem_cons]
    by_cases h : c.1 = k
    · rw [if_pos h]; simp [h]
    · rw [if_neg h, look_kvs k cols, decide_eq_true_iff]
      constructor
      · exact .inr
      · rintro (z | z)
        · exact absurd z.symm h
        · exact z
theorem look_in (k : Str) : ∀ {cols : List Col}, (cols.map (·.1)).Nodup → ∀ c ∈ cols, c.1 = k → lookD k (kvsOf cols) = some (kindD c.2.1 c.2.2)
  | [], _, c, h, _ => by simp at h
  | a :: cols, nd, c, h, e => by
    rw [List.map_cons, List.nodup_cons] at nd
    show (if a.1 = k then some (kindD a.2.1 a.2.2) else lookD k (kvsOf cols)) = _
    rcases List.mem_cons.mp h with rfl | h
    · rw [if_pos e]
    · rw [if_neg fun z => nd.1 (by rw [z, ← e]; exact List.mem_map.mpr ⟨c, h, rfl⟩)]
      exact look_in k nd.2 c h e
theorem put_kvs (k : Str) (v : Str × Bool) (cols : List Col) : putD k (kindD v.1 v.2) (kvsOf cols) = kvsOf (putC k v cols) := by
  unfold putD putC
  rw [look_kvs]
  by_cases h : k ∈ cols.map (·.1)
  · rw [if_pos (decide_eq_true h), if_pos h]
    unfold kvsOf
    rw [List.map_map, List.map_map]
    refine List.map_congr_left fun c _ => ?_
    show (if keyIs k (PyData.str c.1) = true then (PyData.str c.1, kindD v.1 v.2) else (PyData.str c.1, kindD c.2.1 c.2.2)) = _
    by_cases e : c.1 = k
    · rw [show keyIs k (PyData.str c.1) = true from decide_eq_true e]
      simp [e]
    · rw [show keyIs k (PyData.str c.1) = false from decide_eq_false e]
      simp [e]
  · rw [if_neg (by simpa using h), if_neg h]
    unfold kvsOf
    rw [List.map_append]; rfl
theorem put_names (k : Str) (v : Str × Bool) (cols : List Col) : (putC k v cols).map (·.1) = if k ∈ cols.map (·.1) then cols.map (·.1) else cols.map (·.1) ++ [k] := by
  unfold putC
  by_cases h : k ∈ cols.map (·.1)
  · rw [if_pos h, if_pos h, List.map_map]
    refine List.map_congr_left fun c _ => ?_
    show (if c.1 = k then (k, v) else c).1 = c.1
    by_cases e : c.1 = k
    · rw [if_pos e, e]
    · rw [if_neg e]
  · rw [if_neg h, if_neg h, List.map_append]; rfl
theorem put_good {k : Str} {v : Str × Bool} {cols : List Col} (g : GoodC cols) (hk : k ∈ names7) (hv : v.1 ∈ sorts3) : GoodC (putC k v cols) ∧ putC k v cols ≠ [] := by
  have mem : ∀ c ∈ putC k v cols, c = (k, v) ∨ c ∈ cols := fun c hc => by
    unfold putC at hc
    split at hc
    · obtain ⟨c', h1, h2⟩ := List.mem_map.mp hc
      split at h2
      · exact .inl h2.symm
      · exact .inr (h2 ▸ h1)
    · rcases List.mem_append.mp hc with hc | hc
      · exact .inr hc
      · exact .inl (by simpa using hc)
  refine ⟨⟨?_, fun c hc => ?_, fun c hc => ?_⟩, ?_⟩
  · rw [put_names]
    split
    · exact g.nd
    · rename_i h
      rw [List.nodup_append]
      refine ⟨g.nd, by simp, fun a ha b hb => ?_⟩
      rw [List.mem_singleton] at hb
      subst hb
      intro e; subst e; exact h ha
  · rcases mem c hc with rfl | hc
    · exact hk
    · exact g.nm c hc
  · rcases mem c hc with rfl | hc
    · exact hv
    · exact g.kd c hc
  · intro z
    have := put_names k v cols
    rw [z] at this
    split at this
    · rename_i h
      rw [← this] at h
      simp at h
    · simp at this
theorem keyed_kvs (cols : List Col) : keysD (kvsOf cols) = some (cols.map fun c => PyData.str c.1) := by
  induction cols with
  | nil => rfl
  | cons c cols ih =>
    show ((keysD (kvsOf cols)).map (PyData.str c.1 :: ·)) = _
    rw [ih]; rfl
theorem len_kvs (cols : List Col) : (kvsOf cols).length = cols.length := by unfold kvsOf; simp
theorem nodup_le {α : Type} [DecidableEq α] : ∀ {xs ys : List α}, xs.Nodup → (∀ x ∈ xs, x ∈ ys) → xs.length ≤ ys.length
  | [], _, _, _ => Nat.zero_le _
  | x :: xs, ys, nd, h => by
    rw [List.nodup_cons] at nd
    have hx := h x (by simp)
    have := nodup_le (xs := xs) (ys := ys.erase x) nd.2 fun y hy => by
      have ne : y ≠ x := fun e => nd.1 (by rw [← e]; exact hy)
      exact (List.mem_erase_of_ne ne).mpr (h y (List.mem_cons_of_mem _ hy))
    rw [List.length_erase_of_mem hx] at this
    have : 0 < ys.length := List.length_pos_of_mem hx
    rw [List.length_cons]; omega
theorem good_len {cols : List Col} (g : GoodC cols) : cols.length ≤ 7 := by
  have := nodup_le (ys := names7) g.nd fun x hx => by
    obtain ⟨c, hc, rfl⟩ := List.mem_map.mp hx
    exact g.nm c hc
  rw [List.length_map] at this
  exact this
def nameAt (c : Int) : Str := names7.getD (mix c 9887 7).toNat w_a
theorem nameAt_in (c : Int) : nameAt c ∈ names7 := by
  obtain ⟨h1, h2⟩ := mix_range c 9887 (m := 7) (by omega)
  unfold nameAt
  have hl : (mix c 9887 7).toNat < names7.length := by show _ < 7; omega
  rw [List.getD_eq_getElem?_getD, List.getElem?_eq_getElem hl]
  exact List.getElem_mem hl
def namesD : D := .tuple (names7.map PyData.str)
theorem names_at (c : Int) : op2 .idx namesD (.int (mix c 9887 7)) = .ok (.str (nameAt c)) := by
  obtain ⟨h1, h2⟩ := mix_range c 9887 (m := 7) (by omega)
  exact o2_idx_t (at_nat h1 (getD_map (d := w_a) (by show _ < 7; omega)))
theorem turn_eq (n : Nat) (c mo k : Int) (cols : List Col) (g : GoodC cols) (o : Option D) : evalSs (callF defs (n + 2)) b_law_heading_0 [some (.int c), some (.int mo), some namesD, some (.dict (kvsOf cols)), some (.int k), o] = .ok (.next [some (.int c), some (.int mo), some namesD, some (.dict (kvsOf (putC (nameAt (c + 7 * k)) (kindOf (c + 11 * k)) cols))), some (.int k), o]) := by
  have m1 : callF defs (n + 2) F.law_mix [.int (c + 7 * k), .int 9887, .int 7] = .ok (.int (mix (c + 7 * k) 9887 7)) := mix_eq (n + 1) _ 9887 7 (by omega) (by omega) (by omega)
  have e7 : op2 .mul (.int 7) (.int k) = .ok (.int (7 * k)) := o2_mul (mulOk_l (by omega) (by omega))
  have e11 : op2 .mul (.int 11) (.int k) = .ok (.int (11 * k)) := o2_mul (mulOk_l (by omega) (by omega))
  have k1 := kind_eq n (c + 11 * k)
  have na := names_at (c + 7 * k)
  have hk : (isKeyed (kvsOf cols) && decide ((kvsOf cols).length < sizeLine)) = true := by
    rw [Bool.and_eq_true]
    refine ⟨by unfold isKeyed; rw [keyed_kvs]; rfl, decide_eq_true ?_⟩
    rw [len_kvs, sizeLine_eq]
    have := good_len g
    omega
  unfold b_law_heading_0
  simp only [evalSs, evalS, evalE, evalEs, evalIT, Res.bind_ok, Res.bind_bad, Res.bind_exc, Res.tame_ok, Fl.go_next, Fl.go_ret, Fl.fin_next, Fl.fin_ret, slot_some, List.getElem?_cons_zero, List.getElem?_cons_succ, List.set_cons_zero, List.set_cons_succ, put_nm, put_tu, puts_nil, puts_cons, chainK_t, chainK_f, truth_bool, truth_none, truth_int, truth_list, truth_tuple, truth_str, o2_add_i, o2_sub_i, o2_lt_i, o2_le_i, o2_gt_i, o2_ge_i, o2_is_n, o2_is_b, o2_isnot_n, o2_isnot_b, o2_eq_i, o2_eq_s, o2_eq_ns, o2_eq_b, o2_ne_b, o2_idx_t0, o2_idx_t1, o1_len_scr, o1_len_t, o1_len_l, o1_len_s, o1_not_b, o1_tuple_l, o1_list_t, o1_list_l, o1_rev_t, o1_neg_i, o1_int_b, isi_s, isi_i, isi_b, isi_n, isi_t, isi_l, isTy, isNone_n, isNone_b, isNone_i, isNone_s, isNone_t, isNone_l, isBool_b, Bool.not_true, Bool.not_false, eq_self, if_true, if_false, Bool.false_eq_true, reduceIte, beq_self_eq_true, e7, e11, m1, k1, na, putS, hk, put_kvs]
theorem heading_drawn (n : Nat) (c mo : Int) (hm : 0 < mo) (hm2 : mo ≤ 100) : ∃ cols, GoodC cols ∧ cols ≠ [] ∧ callF defs (n + 3) F.law_heading [.int c, .int mo] = .ok (.tuple (cols.map colD)) := by
  have m1 : callF defs (n + 2) F.law_mix [.int c, .int 9901, .int mo] = .ok (.int (mix c 9901 mo)) := mix_eq (n + 1) c 9901 mo (by omega) (by omega) hm
  obtain ⟨h1, h2⟩ := mix_range c 9901 (m := mo) hm
  have hr := rng1_ok (n := 1 + mix c 9901 mo) (by omega) (by omega)
  have hn : (1 + mix c 9901 mo).toNat = (mix c 9901 mo).toNat + 1 := by omega
  rw [hn] at hr
  let f : D → En → Res Fl := fun d e => evalSs (callF defs (n + 2)) b_law_heading_0 (e.set 4 (some d))
  let P : En → Prop := fun env => ∃ cols o, GoodC cols ∧ cols ≠ [] ∧ env = [some (.int c), some (.int mo), some namesD, some (.dict (kvsOf cols)), o, none]
  have step : ∀ d ∈ rangeD 0 ((mix c 9901 mo).toNat + 1), ∀ cols o, GoodC cols → ∃ e, f d [some (.int c), some (.int mo), some namesD, some (.dict (kvsOf cols)), o, none] = .ok (.next e) ∧ P e := fun d hd cols o g => by
    obtain ⟨k, rfl, _⟩ := mem_range hd
    obtain ⟨g1, g2⟩ := put_good (k := nameAt (c + 7 * k)) (v := kindOf (c + 11 * k)) g (nameAt_in _) (kindOf_in _)
    exact ⟨_, turn_eq n c mo k cols g none, _, _, g1, g2, rfl⟩
  have g0 : GoodC [] := ⟨by simp, fun c h => by simp at h, fun c h => by simp at h⟩
  obtain ⟨e0, f0, p0⟩ := step (.int 0) (by simp [rangeD]) [] none g0
  obtain ⟨e, fe, cols, o, g, ne, rfl⟩ := forD_inv (f := f) P (ds := rangeD (0 + 1) (mix c 9901 mo).toNat) (env := e0) (fun d hd env pe => by
    obtain ⟨cols, o, g, _, rfl⟩ := pe
    exact step d (by simp only [rangeD, List.mem_cons]; exact .inr hd) cols o g) p0
  have loop : forD f (rangeD 0 ((mix c 9901 mo).toNat + 1)) [some (.int c), some (.int mo), some namesD, some (.dict []), none, none] = .ok (.next [some (.int c), some (.int mo), some namesD, some (.dict (kvsOf cols)), o, none]) := by
    have f0' : f (.int 0) [some (.int c), some (.int mo), some namesD, some (.dict []), none, none] = .ok (.next e0) := f0
    simp only [rangeD, forD, f0', bind_ok, Fl.go_next, fe]
  have hc : evalE (callF defs (n + 2)) c_law_heading_2 [some (.int c), some (.int mo), some namesD, some (.dict (kvsOf cols)), o, none] = .ok (.list (cols.map colD)) := by
    have hk : keysOf (.dict (kvsOf cols)) = .ok (cols.map fun c => PyData.str c.1) := by
      show (match keysD (kvsOf cols) with | some ks => Res.ok ks | none => .bad) = _
      rw [keyed_kvs]
    unfold c_law_heading_2
    have := compK_any (ρ := callF defs (n + 2)) (i := 5) (a := .var 3) (elt := .tup (.cons (.var 5) (.cons (.o2 .idx (.var 3) (.var 5)) .nil))) (env := [some (.int c), some (.int mo), some namesD, some (.dict (kvsOf cols)), o, none]) (g := fun d => match d with | .str k => .tuple [.str k, (lookD k (kvsOf cols)).getD .none] | _ => .none) (by simp only [evalSs, evalS, evalE, evalEs, evalIT, Res.bind_ok, Res.bind_bad, Res.bind_exc, Res.tame_ok, Fl.go_next, Fl.go_ret, Fl.fin_next, Fl.fin_ret, slot_some, List.getElem?_cons_zero, List.getElem?_cons_succ, List.set_cons_zero, List.set_cons_succ, put_nm, put_tu, puts_nil, puts_cons, chainK_t, chainK_f, truth_bool, truth_none, truth_int, truth_list, truth_tuple, truth_str, o2_add_i, o2_sub_i, o2_lt_i, o2_le_i, o2_gt_i, o2_ge_i, o2_is_n, o2_is_b, o2_isnot_n, o2_isnot_b, o2_eq_i, o2_eq_s, o2_eq_ns, o2_eq_b, o2_ne_b, o2_idx_t0, o2_idx_t1, o1_len_scr, o1_len_t, o1_len_l, o1_len_s, o1_not_b, o1_tuple_l, o1_list_t, o1_list_l, o1_rev_t, o1_neg_i, o1_int_b, isi_s, isi_i, isi_b, isi_n, isi_t, isi_l, isTy, isNone_n, isNone_b, isNone_i, isNone_s, isNone_t, isNone_l, isBool_b, Bool.not_true, Bool.not_false, eq_self, if_true, if_false, Bool.false_eq_true, reduceIte, beq_self_eq_true]) hk (fun d hd => by
      obtain ⟨c', hc', rfl⟩ := List.mem_map.mp hd
      have hl := look_in c'.1 g.nd c' hc' rfl
      have hi : op2 .idx (.dict (kvsOf cols)) (.str c'.1) = .ok (kindD c'.2.1 c'.2.2) := by
        have e : op2 .idx (.dict (kvsOf cols)) (.str c'.1) = getD' (kvsOf cols) (.str c'.1) := by
          cases cols with
          | nil => simp at hc'
          | cons a r => rfl
        rw [e]
        show (match lookD c'.1 (kvsOf cols) with | some d => Res.ok d | none => .bad) = _
        rw [hl]
      simp only [evalSs, evalS, evalE, evalEs, evalIT, Res.bind_ok, Res.bind_bad, Res.bind_exc, Res.tame_ok, Fl.go_next, Fl.go_ret, Fl.fin_next, Fl.fin_ret, slot_some, List.getElem?_cons_zero, List.getElem?_cons_succ, List.set_cons_zero, List.set_cons_succ, put_nm, put_tu, puts_nil, puts_cons, chainK_t, chainK_f, truth_bool, truth_none, truth_int, truth_list, truth_tuple, truth_str, o2_add_i, o2_sub_i, o2_lt_i, o2_le_i, o2_gt_i, o2_ge_i, o2_is_n, o2_is_b, o2_isnot_n, o2_isnot_b, o2_eq_i, o2_eq_s, o2_eq_ns, o2_eq_b, o2_ne_b, o2_idx_t0, o2_idx_t1, o1_len_scr, o1_len_t, o1_len_l, o1_len_s, o1_not_b, o1_tuple_l, o1_list_t, o1_list_l, o1_rev_t, o1_neg_i, o1_int_b, isi_s, isi_i, isi_b, isi_n, isi_t, isi_l, isTy, isNone_n, isNone_b, isNone_i, isNone_s, isNone_t, isNone_l, isBool_b, Bool.not_true, Bool.not_false, eq_self, if_true, if_false, Bool.false_eq_true, reduceIte, beq_self_eq_true, hi, hl, Option.getD_some])
    rw [this, List.map_map]
    congr 2
    refine List.map_congr_left fun c' hc' => ?_
    show PyData.tuple [.str c'.1, (lookD c'.1 (kvsOf cols)).getD .none] = colD c'
    rw [look_in c'.1 g.nd c' hc' rfl]
    rfl
  refine ⟨cols, g, ne, ?_⟩
  have e0' : (1 : Int) + mix c 9901 mo = 1 + mix c 9901 mo := rfl
  have nm : (PyData.tuple [.str w_a, .str w_b, .str w_c, .str w_d, .str w_e, .str w_long, .str w_xyzxyz] : D) = namesD := rfl
  rw [u_law_heading]
  have ld : msetD [some (PyData.int c), some (.int mo), some namesD, none, none, none] 3 (.dict []) = .ok (.next [some (.int c), some (.int mo), some namesD, some (.dict []), none, none]) := rfl
  have dd : dspD [] [] = .ok (.dict []) := rfl
  simp only [evalSs, evalS, evalE, evalEs, evalIT, Res.bind_ok, Res.bind_bad, Res.bind_exc, Res.tame_ok, Fl.go_next, Fl.go_ret, Fl.fin_next, Fl.fin_ret, slot_some, List.getElem?_cons_zero, List.getElem?_cons_succ, List.set_cons_zero, List.set_cons_succ, put_nm, put_tu, puts_nil, puts_cons, chainK_t, chainK_f, truth_bool, truth_none, truth_int, truth_list, truth_tuple, truth_str, o2_add_i, o2_sub_i, o2_lt_i, o2_le_i, o2_gt_i, o2_ge_i, o2_is_n, o2_is_b, o2_isnot_n, o2_isnot_b, o2_eq_i, o2_eq_s, o2_eq_ns, o2_eq_b, o2_ne_b, o2_idx_t0, o2_idx_t1, o1_len_scr, o1_len_t, o1_len_l, o1_len_s, o1_not_b, o1_tuple_l, o1_list_t, o1_list_l, o1_rev_t, o1_neg_i, o1_int_b, isi_s, isi_i, isi_b, isi_n, isi_t, isi_l, isTy, isNone_n, isNone_b, isNone_i, isNone_s, isNone_t, isNone_l, isBool_b, Bool.not_true, Bool.not_false, eq_self, if_true, if_false, Bool.false_eq_true, reduceIte, beq_self_eq_true, f_law_heading, nm, dd, ld, l_law_heading_1, m1, hr]
  rw [loop]
  simp only [evalSs, evalS, evalE, evalEs, evalIT, Res.bind_ok, Res.bind_bad, Res.bind_exc, Res.tame_ok, Fl.go_next, Fl.go_ret, Fl.fin_next, Fl.fin_ret, slot_some, List.getElem?_cons_zero, List.getElem?_cons_succ, List.set_cons_zero, List.set_cons_succ, put_nm, put_tu, puts_nil, puts_cons, chainK_t, chainK_f, truth_bool, truth_none, truth_int, truth_list, truth_tuple, truth_str, o2_add_i, o2_sub_i, o2_lt_i, o2_le_i, o2_gt_i, o2_ge_i, o2_is_n, o2_is_b, o2_isnot_n, o2_isnot_b, o2_eq_i, o2_eq_s, o2_eq_ns, o2_eq_b, o2_ne_b, o2_idx_t0, o2_idx_t1, o1_len_scr, o1_len_t, o1_len_l, o1_len_s, o1_not_b, o1_tuple_l, o1_list_t, o1_list_l, o1_rev_t, o1_neg_i, o1_int_b, isi_s, isi_i, isi_b, isi_n, isi_t, isi_l, isTy, isNone_n, isNone_b, isNone_i, isNone_s, isNone_t, isNone_l, isBool_b, Bool.not_true, Bool.not_false, eq_self, if_true, if_false, Bool.false_eq_true, reduceIte, beq_self_eq_true, hc]
/-! drawn headings are headings -/
theorem unlike_nodup : ∀ (xs : List Str), xs.Nodup → unlike xs = xs := fun xs nd => by
  have : ∀ (ys acc : List Str), (acc ++ ys).Nodup → ys.foldl addU acc = acc ++ ys := fun ys => by
    induction ys with
    | nil => intro acc _; simp
    | cons y ys ih =>
      intro acc nd
      rw [List.foldl_cons]
      have hy : acc.any (· == y) = false := by
        rw [List.any_eq_false]
        intro x hx
        have := (List.nodup_append.mp nd).2.2 x hx y (by simp)
        simpa using this
      have : addU acc y = acc ++ [y] := by unfold addU; rw [hy]; rfl
      rw [this, ih (acc ++ [y]) (by simpa using nd)]
      simp
  have := this xs [] (by simpa using nd)
  rw [unlike_eq, this]; rfl
/-! odd things -/
mutual
def fine (L : Nat) : D → Bool
  | .none | .bool _ | .int _ => true
  | .str x => decide (x.length ≤ L) && x.cps.toList.all (fun c => decide (c < 128))
  | .list xs | .tuple xs => decide (xs.length ≤ L) && fines L xs
  | .dict _ => false
def fines (L : Nat) : List D → Bool
  | [] => true
  | x :: xs => fine L x && fines L xs
end
theorem fines_iff {L : Nat} : ∀ {ds : List D}, fines L ds = true ↔ ∀ d ∈ ds, fine L d = true
  | [] => by simp [fines]
  | x :: xs => by
    simp only [fines, Bool.and_eq_true, List.mem_cons, fines_iff (ds := xs)]
    exact ⟨fun h d hd => hd.elim (fun e => e ▸ h.1) (h.2 d), fun h => ⟨h x (.inl rfl), fun d hd => h d (.inr hd)⟩⟩
mutual
theorem fine_noDict {L : Nat} : ∀ (d : D), fine L d = true → noDict d = true
  | .none, _ => by simp [noDict]
  | .bool _, _ => by simp [noDict]
  | .int _, _ => by simp [noDict]
  | .str _, _ => by simp [noDict]
  | .list xs, h => by
    simp only [fine, Bool.and_eq_true] at h
    simp only [noDict, fines_noDict xs h.2]
  | .tuple xs, h => by
    simp only [fine, Bool.and_eq_true] at h
    simp only [noDict, fines_noDict xs h.2]
  | .dict _, h => by simp [fine] at h
theorem fines_noDict {L : Nat} : ∀ (ds : List D), fines L ds = true → noDicts ds = true
  | [], _ => by simp [noDicts]
  | x :: xs, h => by
    simp only [fines, Bool.and_eq_true] at h
    simp only [noDicts, fine_noDict x h.1, fines_noDict xs h.2, Bool.and_self]
theorem fine_mono {L M : Nat} (hLM : L ≤ M) : ∀ (d : D), fine L d = true → fine M d = true
  | .none, _ => by simp [fine]
  | .bool _, _ => by simp [fine]
  | .int _, _ => by simp [fine]
  | .str x, h => by
    simp only [fine, Bool.and_eq_true, decide_eq_true_eq] at h ⊢
    exact ⟨Nat.le_trans h.1 hLM, h.2⟩
  | .list xs, h => by
    simp only [fine, Bool.and_eq_true, decide_eq_true_eq] at h ⊢
    exact ⟨Nat.le_trans h.1 hLM, fines_mono hLM xs h.2⟩
  | .tuple xs, h => by
    simp only [fine, Bool.and_eq_true, decide_eq_true_eq] at h ⊢
    exact ⟨Nat.le_trans h.1 hLM, fines_mono hLM xs h.2⟩
  | .dict _, h => by simp [fine] at h
theorem fines_mono {L M : Nat} (hLM : L ≤ M) : ∀ (ds : List D), fines L ds = true → fines M ds = true
  | [], _ => by simp [fines]
  | x :: xs, h => by
    simp only [fines, Bool.and_eq_true] at h ⊢
    exact ⟨fine_mono hLM x h.1, fines_mono hLM xs h.2⟩
end
theorem fine_tuple {L : Nat} {ds : List D} : fine L (.tuple ds) = true ↔ ds.length ≤ L ∧ ∀ d ∈ ds, fine L d = true := by
  rw [fine, Bool.and_eq_true, decide_eq_true_eq, fines_iff]
theorem fine_str {L : Nat} {x : Str} : fine L (.str x) = true ↔ x.length ≤ L ∧ ∀ c ∈ x.cps.toList, c < 128 := by
  rw [fine, Bool.and_eq_true, decide_eq_true_eq, List.all_eq_true]
  simp only [decide_eq_true_eq]
def only (f : D → Bool) : List D → Bool
  | [a] => f a
  | _ => false
theorem sort_of_eq (n : Nat) (d : D) (h : noDict d = true) : callF defs (n + 1) F.sort_of [d] = .ok (optS (sortS d)) := by
  rw [u_sort_of]
  cases d with
  | dict _ => simp [noDict] at h
  | _ => simp only [evalSs, evalS, evalE, evalEs, evalIT, Res.bind_ok, Res.bind_bad, Res.bind_exc, Res.tame_ok, Fl.go_next, Fl.go_ret, Fl.fin_next, Fl.fin_ret, slot_some, List.getElem?_cons_zero, List.getElem?_cons_succ, List.set_cons_zero, List.set_cons_succ, put_nm, put_tu, puts_nil, puts_cons, chainK_t, chainK_f, truth_bool, truth_none, truth_int, truth_list, truth_tuple, truth_str, o2_add_i, o2_sub_i, o2_lt_i, o2_le_i, o2_gt_i, o2_ge_i, o2_is_n, o2_is_b, o2_isnot_n, o2_isnot_b, o2_eq_i, o2_eq_s, o2_eq_ns, o2_eq_b, o2_ne_b, o2_idx_t0, o2_idx_t1, o1_len_scr, o1_len_t, o1_len_l, o1_len_s, o1_not_b, o1_tuple_l, o1_list_t, o1_list_l, o1_rev_t, o1_neg_i, o1_int_b, isi_s, isi_i, isi_b, isi_n, isi_t, isi_l, isTy, isNone_n, isNone_b, isNone_i, isNone_s, isNone_t, isNone_l, isBool_b, Bool.not_true, Bool.not_false, eq_self, if_true, if_false, Bool.false_eq_true, reduceIte, beq_self_eq_true, f_sort_of, sortS, optS]
/-! drawn sums are sums, and fine -/
theorem fine_val {s : Str} {v : D} (h : Val s v) : fine 10 v = true := by
  cases h with
  | whole i _ _ => simp [fine]
  | truth b => simp [fine]
  | text x h1 h2 =>
    rw [fine_str]
    refine ⟨by omega, fun c hc => ?_⟩
    have : ∀ c ∈ signs.cps.toList, c < 128 := by decide +kernel
    exact this c (h2 c hc)
theorem fine_t1 {L : Nat} {a b : D} (hL : 4 ≤ L) (h1 : fine L a = true) (h2 : fine L b = true) : fine L (.tuple [a, b]) = true := by
  simp only [fine, fines, h1, h2, List.length_cons, List.length_nil, Bool.and_true, decide_eq_true_eq]; omega
/-! alike with itself -/
mutual
def plainD : D → Bool
  | .none | .bool _ | .int _ | .str _ => true
  | .tuple xs => plainDs xs
  | _ => false
def plainDs : List D → Bool
  | [] => true
  | x :: xs => plainD x && plainDs xs
end
theorem plainDs_mem : ∀ {ds : List D}, plainDs ds = true → ∀ d ∈ ds, plainD d = true
  | [], _, _, h => by simp at h
  | x :: xs, h, d, hd => by
    simp only [plainDs, Bool.and_eq_true] at h
    rcases List.mem_cons.mp hd with rfl | hd
    · exact h.1
    · exact plainDs_mem h.2 d hd
theorem plainDs_of : ∀ {ds : List D}, (∀ d ∈ ds, plainD d = true) → plainDs ds = true
  | [], _ => by simp [plainDs]
  | d :: ds, h => by simp only [plainDs, h d (by simp), plainDs_of fun x hx => h x (List.mem_cons_of_mem _ hx), Bool.and_self]
theorem plain_tup {ds : List D} (h : ∀ d ∈ ds, plainD d = true) : plainD (.tuple ds) = true := by
  rw [plainD]; exact plainDs_of h
theorem zip_self : ∀ ds : List D, zipD ds ds = ds.map fun d => .tuple [d, d]
  | [] => rfl
  | d :: ds => by simp only [zipD, zip_self ds, List.map_cons]
theorem depth_le {ds : List D} {d : D} (h : d ∈ ds) : PyData.depth d + 1 ≤ PyData.depth (.tuple ds) := by
  have : ∀ l : List D, d ∈ l → PyData.depth d ≤ PyData.depthAll l := fun l => by
    induction l with
    | nil => intro h; simp at h
    | cons a l ih =>
      intro h
      rw [PyData.depthAll]
      rcases List.mem_cons.mp h with rfl | h
      · exact Nat.le_max_left _ _
      · exact Nat.le_trans (ih h) (Nat.le_max_right _ _)
  rw [PyData.depth]
  exact Nat.add_le_add_right (this ds h) 1
theorem all_true (l : List D) : op1 .all (.list (l.map fun _ => .bool true)) = .ok (.bool true) := by
  have := o1_all l (fun _ => true)
  rw [this]; simp
theorem same_refl : ∀ (n : Nat) (d : D), PyData.depth d ≤ n → plainD d = true → callF defs (n + 1) F.law_same [d, d] = .ok (.bool true)
  | n, .tuple ds, hn, hp => by
    rw [plainD] at hp
    rw [u_law_same]
    have hc : evalE (callF defs n) c_law_same_0 [some (.tuple ds), some (.tuple ds), none, none] = .ok (.list ((zipD ds ds).map fun _ => .bool true)) := by
      unfold c_law_same_0
      refine comp_any (by simp only [evalSs, evalS, evalE, evalEs, evalIT, Res.bind_ok, Res.bind_bad, Res.bind_exc, Res.tame_ok, Fl.go_next, Fl.go_ret, Fl.fin_next, Fl.fin_ret, slot_some, List.getElem?_cons_zero, List.getElem?_cons_succ, List.set_cons_zero, List.set_cons_succ, put_nm, put_tu, puts_nil, puts_cons, chainK_t, chainK_f, truth_bool, truth_none, truth_int, truth_list, truth_tuple, truth_str, o2_add_i, o2_sub_i, o2_lt_i, o2_le_i, o2_gt_i, o2_ge_i, o2_is_n, o2_is_b, o2_isnot_n, o2_isnot_b, o2_eq_i, o2_eq_s, o2_eq_ns, o2_eq_b, o2_ne_b, o2_idx_t0, o2_idx_t1, o1_len_scr, o1_len_t, o1_len_l, o1_len_s, o1_not_b, o1_tuple_l, o1_list_t, o1_list_l, o1_rev_t, o1_neg_i, o1_int_b, isi_s, isi_i, isi_b, isi_n, isi_t, isi_l, isTy, isNone_n, isNone_b, isNone_i, isNone_s, isNone_t, isNone_l, isBool_b, Bool.not_true, Bool.not_false, eq_self, if_true, if_false, Bool.false_eq_true, reduceIte, beq_self_eq_true, seqOf]) fun d hd => ?_
      rw [zip_self] at hd
      obtain ⟨x, hx, rfl⟩ := List.mem_map.mp hd
      have := depth_le hx
      cases n with
      | zero => omega
      | succ n =>
        have ih := same_refl n x (by omega) (plainDs_mem hp x hx)
        exact ⟨_, by simp only [evalSs, evalS, evalE, evalEs, evalIT, Res.bind_ok, Res.bind_bad, Res.bind_exc, Res.tame_ok, Fl.go_next, Fl.go_ret, Fl.fin_next, Fl.fin_ret, slot_some, List.getElem?_cons_zero, List.getElem?_cons_succ, List.set_cons_zero, List.set_cons_succ, put_nm, put_tu, puts_nil, puts_cons, chainK_t, chainK_f, truth_bool, truth_none, truth_int, truth_list, truth_tuple, truth_str, o2_add_i, o2_sub_i, o2_lt_i, o2_le_i, o2_gt_i, o2_ge_i, o2_is_n, o2_is_b, o2_isnot_n, o2_isnot_b, o2_eq_i, o2_eq_s, o2_eq_ns, o2_eq_b, o2_ne_b, o2_idx_t0, o2_idx_t1, o1_len_scr, o1_len_t, o1_len_l, o1_len_s, o1_not_b, o1_tuple_l, o1_list_t, o1_list_l, o1_rev_t, o1_neg_i, o1_int_b, isi_s, isi_i, isi_b, isi_n, isi_t, isi_l, isTy, isNone_n, isNone_b, isNone_i, isNone_s, isNone_t, isNone_l, isBool_b, Bool.not_true, Bool.not_false, eq_self, if_true, if_false, Bool.false_eq_true, reduceIte, beq_self_eq_true] <;> rfl, by simp only [evalSs, evalS, evalE, evalEs, evalIT, Res.bind_ok, Res.bind_bad, Res.bind_exc, Res.tame_ok, Fl.go_next, Fl.go_ret, Fl.fin_next, Fl.fin_ret, slot_some, List.getElem?_cons_zero, List.getElem?_cons_succ, List.set_cons_zero, List.set_cons_succ, put_nm, put_tu, puts_nil, puts_cons, chainK_t, chainK_f, truth_bool, truth_none, truth_int, truth_list, truth_tuple, truth_str, o2_add_i, o2_sub_i, o2_lt_i, o2_le_i, o2_gt_i, o2_ge_i, o2_is_n, o2_is_b, o2_isnot_n, o2_isnot_b, o2_eq_i, o2_eq_s, o2_eq_ns, o2_eq_b, o2_ne_b, o2_idx_t0, o2_idx_t1, o1_len_scr, o1_len_t, o1_len_l, o1_len_s, o1_not_b, o1_tuple_l, o1_list_t, o1_list_l, o1_rev_t, o1_neg_i, o1_int_b, isi_s, isi_i, isi_b, isi_n, isi_t, isi_l, isTy, isNone_n, isNone_b, isNone_i, isNone_s, isNone_t, isNone_l, isBool_b, Bool.not_true, Bool.not_false, eq_self, if_true, if_false, Bool.false_eq_true, reduceIte, beq_self_eq_true, ih]⟩
    simp only [evalSs, evalS, evalE, evalEs, evalIT, Res.bind_ok, Res.bind_bad, Res.bind_exc, Res.tame_ok, Fl.go_next, Fl.go_ret, Fl.fin_next, Fl.fin_ret, slot_some, List.getElem?_cons_zero, List.getElem?_cons_succ, List.set_cons_zero, List.set_cons_succ, put_nm, put_tu, puts_nil, puts_cons, chainK_t, chainK_f, truth_bool, truth_none, truth_int, truth_list, truth_tuple, truth_str, o2_add_i, o2_sub_i, o2_lt_i, o2_le_i, o2_gt_i, o2_ge_i, o2_is_n, o2_is_b, o2_isnot_n, o2_isnot_b, o2_eq_i, o2_eq_s, o2_eq_ns, o2_eq_b, o2_ne_b, o2_idx_t0, o2_idx_t1, o1_len_scr, o1_len_t, o1_len_l, o1_len_s, o1_not_b, o1_tuple_l, o1_list_t, o1_list_l, o1_rev_t, o1_neg_i, o1_int_b, isi_s, isi_i, isi_b, isi_n, isi_t, isi_l, isTy, isNone_n, isNone_b, isNone_i, isNone_s, isNone_t, isNone_l, isBool_b, Bool.not_true, Bool.not_false, eq_self, if_true, if_false, Bool.false_eq_true, reduceIte, beq_self_eq_true, f_law_same, o2_ne_i, hc, all_true]
  | n, .none, _, _ => by rw [u_law_same]; simp only [evalSs, evalS, evalE, evalEs, evalIT, Res.bind_ok, Res.bind_bad, Res.bind_exc, Res.tame_ok, Fl.go_next, Fl.go_ret, Fl.fin_next, Fl.fin_ret, slot_some, List.getElem?_cons_zero, List.getElem?_cons_succ, List.set_cons_zero, List.set_cons_succ, put_nm, put_tu, puts_nil, puts_cons, chainK_t, chainK_f, truth_bool, truth_none, truth_int, truth_list, truth_tuple, truth_str, o2_add_i, o2_sub_i, o2_lt_i, o2_le_i, o2_gt_i, o2_ge_i, o2_is_n, o2_is_b, o2_isnot_n, o2_isnot_b, o2_eq_i, o2_eq_s, o2_eq_ns, o2_eq_b, o2_ne_b, o2_idx_t0, o2_idx_t1, o1_len_scr, o1_len_t, o1_len_l, o1_len_s, o1_not_b, o1_tuple_l, o1_list_t, o1_list_l, o1_rev_t, o1_neg_i, o1_int_b, isi_s, isi_i, isi_b, isi_n, isi_t, isi_l, isTy, isNone_n, isNone_b, isNone_i, isNone_s, isNone_t, isNone_l, isBool_b, Bool.not_true, Bool.not_false, eq_self, if_true, if_false, Bool.false_eq_true, reduceIte, beq_self_eq_true, f_law_same]
  | n, .bool b, _, _ => by rw [u_law_same]; simp only [evalSs, evalS, evalE, evalEs, evalIT, Res.bind_ok, Res.bind_bad, Res.bind_exc, Res.tame_ok, Fl.go_next, Fl.go_ret, Fl.fin_next, Fl.fin_ret, slot_some, List.getElem?_cons_zero, List.getElem?_cons_succ, List.set_cons_zero, List.set_cons_succ, put_nm, put_tu, puts_nil, puts_cons, chainK_t, chainK_f, truth_bool, truth_none, truth_int, truth_list, truth_tuple, truth_str, o2_add_i, o2_sub_i, o2_lt_i, o2_le_i, o2_gt_i, o2_ge_i, o2_is_n, o2_is_b, o2_isnot_n, o2_isnot_b, o2_eq_i, o2_eq_s, o2_eq_ns, o2_eq_b, o2_ne_b, o2_idx_t0, o2_idx_t1, o1_len_scr, o1_len_t, o1_len_l, o1_len_s, o1_not_b, o1_tuple_l, o1_list_t, o1_list_l, o1_rev_t, o1_neg_i, o1_int_b, isi_s, isi_i, isi_b, isi_n, isi_t, isi_l, isTy, isNone_n, isNone_b, isNone_i, isNone_s, isNone_t, isNone_l, isBool_b, Bool.not_true, Bool.not_false, eq_self, if_true, if_false, Bool.false_eq_true, reduceIte, beq_self_eq_true, f_law_same]
  | n, .int i, _, _ => by rw [u_law_same]; simp only [evalSs, evalS, evalE, evalEs, evalIT, Res.bind_ok, Res.bind_bad, Res.bind_exc, Res.tame_ok, Fl.go_next, Fl.go_ret, Fl.fin_next, Fl.fin_ret, slot_some, List.getElem?_cons_zero, List.getElem?_cons_succ, List.set_cons_zero, List.set_cons_succ, put_nm, put_tu, puts_nil, puts_cons, chainK_t, chainK_f, truth_bool, truth_none, truth_int, truth_list, truth_tuple, truth_str, o2_add_i, o2_sub_i, o2_lt_i, o2_le_i, o2_gt_i, o2_ge_i, o2_is_n, o2_is_b, o2_isnot_n, o2_isnot_b, o2_eq_i, o2_eq_s, o2_eq_ns, o2_eq_b, o2_ne_b, o2_idx_t0, o2_idx_t1, o1_len_scr, o1_len_t, o1_len_l, o1_len_s, o1_not_b, o1_tuple_l, o1_list_t, o1_list_l, o1_rev_t, o1_neg_i, o1_int_b, isi_s, isi_i, isi_b, isi_n, isi_t, isi_l, isTy, isNone_n, isNone_b, isNone_i, isNone_s, isNone_t, isNone_l, isBool_b, Bool.not_true, Bool.not_false, eq_self, if_true, if_false, Bool.false_eq_true, reduceIte, beq_self_eq_true, f_law_same]
  | n, .str x, _, _ => by rw [u_law_same]; simp only [evalSs, evalS, evalE, evalEs, evalIT, Res.bind_ok, Res.bind_bad, Res.bind_exc, Res.tame_ok, Fl.go_next, Fl.go_ret, Fl.fin_next, Fl.fin_ret, slot_some, List.getElem?_cons_zero, List.getElem?_cons_succ, List.set_cons_zero, List.set_cons_succ, put_nm, put_tu, puts_nil, puts_cons, chainK_t, chainK_f, truth_bool, truth_none, truth_int, truth_list, truth_tuple, truth_str, o2_add_i, o2_sub_i, o2_lt_i, o2_le_i, o2_gt_i, o2_ge_i, o2_is_n, o2_is_b, o2_isnot_n, o2_isnot_b, o2_eq_i, o2_eq_s, o2_eq_ns, o2_eq_b, o2_ne_b, o2_idx_t0, o2_idx_t1, o1_len_scr, o1_len_t, o1_len_l, o1_len_s, o1_not_b, o1_tuple_l, o1_list_t, o1_list_l, o1_rev_t, o1_neg_i, o1_int_b, isi_s, isi_i, isi_b, isi_n, isi_t, isi_l, isTy, isNone_n, isNone_b, isNone_i, isNone_s, isNone_t, isNone_l, isBool_b, Bool.not_true, Bool.not_false, eq_self, if_true, if_false, Bool.false_eq_true, reduceIte, beq_self_eq_true, f_law_same]
/-! drawn rows and houses -/
def VOk (c : Col) (v : D) : Prop := Val c.2.1 v ∨ (c.2.2 = true ∧ v = .none)
inductive RowOk : List Col → List D → Prop
  | nil : RowOk [] []
  | cons {c : Col} {v : D} {cs : List Col} {vs : List D} : VOk c v → RowOk cs vs → RowOk (c :: cs) (v :: vs)
theorem RowOk.len {cs : List Col} {vs : List D} (h : RowOk cs vs) : vs.length = cs.length := by
  induction h with
  | nil => rfl
  | cons _ _ ih => simp [ih]
theorem forD_range {f : D → En → Res Fl} (P : Nat → En → Prop) : ∀ {n : Nat} {env : En}, (∀ k env, k < n → P k env → ∃ e, f (.int k) env = .ok (.next e) ∧ P (k + 1) e) → P 0 env → ∃ e, forD f (rangeD 0 n) env = .ok (.next e) ∧ P n e := by
  have go : ∀ (m lo : Nat) (env : En), (∀ k env, k < lo + m → P k env → ∃ e, f (.int k) env = .ok (.next e) ∧ P (k + 1) e) → P lo env → ∃ e, forD f (rangeD lo m) env = .ok (.next e) ∧ P (lo + m) e := fun m => by
    induction m with
    | zero => exact fun lo env _ p => ⟨env, rfl, p⟩
    | succ m ih =>
      intro lo env h p
      obtain ⟨e, e1, p1⟩ := h lo env (by omega) p
      obtain ⟨e', e2, p2⟩ := ih (lo + 1) e (fun k env hk p => h k env (by omega) p) p1
      refine ⟨e', ?_, by rw [show lo + (m + 1) = lo + 1 + m by omega]; exact p2⟩
      have c : ((lo + 1 : Nat) : Int) = (lo : Int) + 1 := by push_cast; rfl
      rw [c] at e2
      simp only [rangeD, forD, e1, bind_ok, Fl.go_next, e2]
  intro n env h p
  have := go n 0 env (fun k env hk p => h k env (by omega) p) p
  simpa using this
theorem each_cols {f : D → Res (Option D)} : ∀ (cols : List Col) (k : Nat), (∀ (j : Nat) (c : Col), c ∈ cols → ∃ v, f (.tuple [.int j, colD c]) = .ok (some v) ∧ VOk c v) → ∃ vs, eachD f (enumD k (cols.map colD)) = .ok vs ∧ RowOk cols vs
  | [], _, _ => ⟨[], rfl, .nil⟩
  | c :: cols, k, h => by
    obtain ⟨v, h1, h2⟩ := h k c (by simp)
    obtain ⟨vs, h3, h4⟩ := each_cols cols (k + 1) fun j c hc => h j c (List.mem_cons_of_mem _ hc)
    exact ⟨v :: vs, by simp only [List.map_cons, enumD, eachD, h1, bind_ok, h3], .cons h2 h4⟩
theorem comp_row {ρ : Nat → List D → Res D} {t : Tg} {it : IT} {elt : IE} {env : En} {cols : List Col} (hi : evalIT ρ it env = .ok (enumD 0 (cols.map colD)))
    (h : ∀ (j : Nat) (c : Col), c ∈ cols → ∃ e v, t.put (.tuple [.int j, colD c]) env = .ok e ∧ evalE ρ elt e = .ok v ∧ VOk c v) : ∃ vs, evalE ρ (.comp t it elt) env = .ok (.list vs) ∧ RowOk cols vs := by
  obtain ⟨vs, h1, h2⟩ := each_cols (f := fun d => (t.put d env).bind fun e => (evalE ρ elt e).bind fun x => .ok (some x)) cols 0 fun j c hc => by
    obtain ⟨e, v, e1, e2, e3⟩ := h j c hc
    exact ⟨v, by simp only [e1, e2, bind_ok], e3⟩
  refine ⟨vs, ?_, h2⟩
  simp only [evalE, hi, bind_ok, h1, Res.tame_ok]
structure Tb where
  cols : List Col
  rows : List (List D)
def tabD (t : Tb) : D := .tuple [.tuple (t.cols.map colD), .tuple (t.rows.map PyData.tuple)]
structure GoodT (t : Tb) : Prop where
  g : GoodC t.cols
  ne : t.cols ≠ []
  rs : ∀ r ∈ t.rows, RowOk t.cols r
  ln : t.rows.length ≤ 10
def entD (p : Str × Tb) : D := .tuple [.str p.1, tabD p.2]
def houseD (hs : List (Str × Tb)) : D := .tuple (hs.map entD)
theorem app_eq (env : En) (i : Nat) (d : D) (ds : List D) (hl : ds.length ≤ 1000) : appD env i d (some (some (.list ds))) = .ok (.next (env.set i (some (.list (ds ++ [d]))))) := by
  show (if decide (ds.length < sizeLine) = true then _ else _) = _
  rw [if_pos (decide_eq_true (by rw [sizeLine_eq]; omega))]
theorem row_turn (n : Nat) (cols : List Col) (gd : GoodC cols) (c mo : Int) (k : Nat) (rows : List (List D)) (hr : ∀ r ∈ rows, RowOk cols r) (hl : rows.length ≤ 100) (o5 o6 : Option D) :
    ∃ rows' : List (List D), evalSs (callF defs (n + 3)) b_law_rows_1 [some (.tuple (cols.map colD)), some (.int c), some (.int mo), some (.list (rows.map PyData.tuple)), some (.int k), o5, o6] = .ok (.next [some (.tuple (cols.map colD)), some (.int c), some (.int mo), some (.list (rows'.map PyData.tuple)), some (.int k), o5, o6]) ∧ (∀ r ∈ rows', RowOk cols r) ∧ rows'.length ≤ rows.length + 2 := by
  have e13 : op2 .mul (.int 13) (.int k) = .ok (.int (13 * k)) := o2_mul (mulOk_l (by omega) (by omega))
  obtain ⟨vs, h1, h2⟩ := comp_row (ρ := callF defs (n + 3)) (t := .tu (.cons (.nm 5) (.cons (.nm 6) .nil))) (it := .enum (.var 0)) (elt := .call F.law_value (.cons (.o2 .add (.o2 .add (.var 1) (.o2 .mul (.int 13) (.var 4))) (.o2 .mul (.int 5) (.var 5))) (.cons (.o2 .idx (.var 6) (.int 1)) .nil)))
    (env := [some (.tuple (cols.map colD)), some (.int c), some (.int mo), some (.list (rows.map PyData.tuple)), some (.int k), o5, o6]) (cols := cols) (by simp only [evalSs, evalS, evalE, evalEs, evalIT, Res.bind_ok, Res.bind_bad, Res.bind_exc, Res.tame_ok, Fl.go_next, Fl.go_ret, Fl.fin_next, Fl.fin_ret, slot_some, List.getElem?_cons_zero, List.getElem?_cons_succ, List.set_cons_zero, List.set_cons_succ, put_nm, put_tu, puts_nil, puts_cons, chainK_t, chainK_f, truth_bool, truth_none, truth_int, truth_list, truth_tuple, truth_str, o2_add_i, o2_sub_i, o2_lt_i, o2_le_i, o2_gt_i, o2_ge_i, o2_is_n, o2_is_b, o2_isnot_n, o2_isnot_b, o2_eq_i, o2_eq_s, o2_eq_ns, o2_eq_b, o2_ne_b, o2_idx_t0, o2_idx_t1, o1_len_scr, o1_len_t, o1_len_l, o1_len_s, o1_not_b, o1_tuple_l, o1_list_t, o1_list_l, o1_rev_t, o1_neg_i, o1_int_b, isi_s, isi_i, isi_b, isi_n, isi_t, isi_l, isTy, isNone_n, isNone_b, isNone_i, isNone_s, isNone_t, isNone_l, isBool_b, Bool.not_true, Bool.not_false, eq_self, if_true, if_false, Bool.false_eq_true, reduceIte, beq_self_eq_true, seqOf]) (fun j q hq => by
      obtain ⟨v, v1, v2⟩ := value_drawn n (c + 13 * k + 5 * j) q.2.1 q.2.2 (gd.kd q hq)
      have e5 : op2 .mul (.int 5) (.int j) = .ok (.int (5 * j)) := o2_mul (mulOk_l (by omega) (by omega))
      exact ⟨[some (.tuple (cols.map colD)), some (.int c), some (.int mo), some (.list (rows.map PyData.tuple)), some (.int k), some (.int j), some (colD q)], v, by simp only [evalSs, evalS, evalE, evalEs, evalIT, Res.bind_ok, Res.bind_bad, Res.bind_exc, Res.tame_ok, Fl.go_next, Fl.go_ret, Fl.fin_next, Fl.fin_ret, slot_some, List.getElem?_cons_zero, List.getElem?_cons_succ, List.set_cons_zero, List.set_cons_succ, put_nm, put_tu, puts_nil, puts_cons, chainK_t, chainK_f, truth_bool, truth_none, truth_int, truth_list, truth_tuple, truth_str, o2_add_i, o2_sub_i, o2_lt_i, o2_le_i, o2_gt_i, o2_ge_i, o2_is_n, o2_is_b, o2_isnot_n, o2_isnot_b, o2_eq_i, o2_eq_s, o2_eq_ns, o2_eq_b, o2_ne_b, o2_idx_t0, o2_idx_t1, o1_len_scr, o1_len_t, o1_len_l, o1_len_s, o1_not_b, o1_tuple_l, o1_list_t, o1_list_l, o1_rev_t, o1_neg_i, o1_int_b, isi_s, isi_i, isi_b, isi_n, isi_t, isi_l, isTy, isNone_n, isNone_b, isNone_i, isNone_s, isNone_t, isNone_l, isBool_b, Bool.not_true, Bool.not_false, eq_self, if_true, if_false, Bool.false_eq_true, reduceIte, beq_self_eq_true], by simp only [evalSs, evalS, evalE, evalEs, evalIT, Res.bind_ok, Res.bind_bad, Res.bind_exc, Res.tame_ok, Fl.go_next, Fl.go_ret, Fl.fin_next, Fl.fin_ret, slot_some, List.getElem?_cons_zero, List.getElem?_cons_succ, List.set_cons_zero, List.set_cons_succ, put_nm, put_tu, puts_nil, puts_cons, chainK_t, chainK_f, truth_bool, truth_none, truth_int, truth_list, truth_tuple, truth_str, o2_add_i, o2_sub_i, o2_lt_i, o2_le_i, o2_gt_i, o2_ge_i, o2_is_n, o2_is_b, o2_isnot_n, o2_isnot_b, o2_eq_i, o2_eq_s, o2_eq_ns, o2_eq_b, o2_ne_b, o2_idx_t0, o2_idx_t1, o1_len_scr, o1_len_t, o1_len_l, o1_len_s, o1_not_b, o1_tuple_l, o1_list_t, o1_list_l, o1_rev_t, o1_neg_i, o1_int_b, isi_s, isi_i, isi_b, isi_n, isi_t, isi_l, isTy, isNone_n, isNone_b, isNone_i, isNone_s, isNone_t, isNone_l, isBool_b, Bool.not_true, Bool.not_false, eq_self, if_true, if_false, Bool.false_eq_true, reduceIte, beq_self_eq_true, e13, e5, colD, v1], v2⟩)
  have hc : evalE (callF defs (n + 3)) c_law_rows_0 [some (.tuple (cols.map colD)), some (.int c), some (.int mo), some (.list (rows.map PyData.tuple)), some (.int k), o5, o6] = .ok (.list vs) := h1
  have m1 : callF defs (n + 3) F.law_mix [.int (c + k), .int 9871, .int 4] = .ok (.int (mix (c + k) 9871 4)) := mix_eq (n + 2) _ 9871 4 (by omega) (by omega) (by omega)
  have a1 : (rows.map (PyData.tuple)).length ≤ 1000 := by rw [List.length_map]; omega
  have er : rows.map (PyData.tuple) ++ [.tuple vs] = (rows ++ [vs]).map PyData.tuple := by rw [List.map_append]; rfl
  have s1 : evalS (callF defs (n + 3)) (.app 3 (.o1 .tuple c_law_rows_0)) [some (.tuple (cols.map colD)), some (.int c), some (.int mo), some (.list (rows.map PyData.tuple)), some (.int k), o5, o6] = .ok (.next [some (.tuple (cols.map colD)), some (.int c), some (.int mo), some (.list ((rows ++ [vs]).map PyData.tuple)), some (.int k), o5, o6]) := by
    simp only [evalS, evalE, hc, bind_ok, o1_tuple_l, List.getElem?_cons_zero, List.getElem?_cons_succ]
    rw [app_eq _ 3 _ (rows.map PyData.tuple) a1, er]; rfl
  have hr1 : ∀ r ∈ rows ++ [vs], RowOk cols r := fun r h => by
    rcases List.mem_append.mp h with h | h
    · exact hr r h
    · rw [List.mem_singleton] at h; rw [h]; exact h2
  by_cases q : mix (c + k) 9871 4 = 0
  · have len : (((rows ++ [vs]).map (PyData.tuple)).length : Int) = (rows.length : Int) + 1 := by simp
    have m2 : callF defs (n + 3) F.law_mix [.int (c + k), .int 9859, .int ((rows.length : Int) + 1)] = .ok (.int (mix (c + k) 9859 ((rows.length : Int) + 1))) := mix_eq (n + 2) _ 9859 _ (by omega) (by omega) (by omega)
    obtain ⟨b1, b2⟩ := mix_range (c + k) 9859 (m := (rows.length : Int) + 1) (by omega)
    obtain ⟨x, hx, ha, _⟩ := atI_in (xs := (rows ++ [vs]).map PyData.tuple) b1 (by rw [len]; exact b2)
    obtain ⟨r, hr2, rfl⟩ := List.mem_map.mp hx
    have hi := o2_idx_l ha
    have q' : (mix (c + k) 9871 4 == 0) = true := by simp [q]
    refine ⟨rows ++ [vs] ++ [r], ?_, fun r' h => ?_, by simp⟩
    · unfold b_law_rows_1
      refine seq_next s1 ((seq_if_n (d := .bool true) (by simp only [evalSs, evalS, evalE, evalEs, evalIT, Res.bind_ok, Res.bind_bad, Res.bind_exc, Res.tame_ok, Fl.go_next, Fl.go_ret, Fl.fin_next, Fl.fin_ret, slot_some, List.getElem?_cons_zero, List.getElem?_cons_succ, List.set_cons_zero, List.set_cons_succ, put_nm, put_tu, puts_nil, puts_cons, chainK_t, chainK_f, truth_bool, truth_none, truth_int, truth_list, truth_tuple, truth_str, o2_add_i, o2_sub_i, o2_lt_i, o2_le_i, o2_gt_i, o2_ge_i, o2_is_n, o2_is_b, o2_isnot_n, o2_isnot_b, o2_eq_i, o2_eq_s, o2_eq_ns, o2_eq_b, o2_ne_b, o2_idx_t0, o2_idx_t1, o1_len_scr, o1_len_t, o1_len_l, o1_len_s, o1_not_b, o1_tuple_l, o1_list_t, o1_list_l, o1_rev_t, o1_neg_i, o1_int_b, isi_s, isi_i, isi_b, isi_n, isi_t, isi_l, isTy, isNone_n, isNone_b, isNone_i, isNone_s, isNone_t, isNone_l, isBool_b, Bool.not_true, Bool.not_false, eq_self, if_true, if_false, Bool.false_eq_true, reduceIte, beq_self_eq_true, m1, q']) rfl (e := [some (.tuple (cols.map colD)), some (.int c), some (.int mo), some (.list ((rows ++ [vs] ++ [r]).map PyData.tuple)), some (.int k), o5, o6]) ?_).trans rfl)
      refine seq_next ?_ rfl
      simp only [evalS, evalE, evalEs, bind_ok, slot_some, List.getElem?_cons_zero, List.getElem?_cons_succ, o2_add_i, o1_len_l, len, m2, hi]
      rw [app_eq _ 3 _ ((rows ++ [vs]).map PyData.tuple) (by rw [List.length_map, List.length_append]; simp; omega)]
      rw [List.map_append (l₂ := [r])]; rfl
    · rcases List.mem_append.mp h with h | h
      · exact hr1 r' h
      · rw [List.mem_singleton] at h; rw [h]; exact hr1 r hr2
  · have q' : (mix (c + k) 9871 4 == 0) = false := by simp [q]
    refine ⟨rows ++ [vs], ?_, hr1, by simp⟩
    unfold b_law_rows_1
    exact seq_next s1 ((seq_if_f (d := .bool false) (by simp only [evalSs, evalS, evalE, evalEs, evalIT, Res.bind_ok, Res.bind_bad, Res.bind_exc, Res.tame_ok, Fl.go_next, Fl.go_ret, Fl.fin_next, Fl.fin_ret, slot_some, List.getElem?_cons_zero, List.getElem?_cons_succ, List.set_cons_zero, List.set_cons_succ, put_nm, put_tu, puts_nil, puts_cons, chainK_t, chainK_f, truth_bool, truth_none, truth_int, truth_list, truth_tuple, truth_str, o2_add_i, o2_sub_i, o2_lt_i, o2_le_i, o2_gt_i, o2_ge_i, o2_is_n, o2_is_b, o2_isnot_n, o2_isnot_b, o2_eq_i, o2_eq_s, o2_eq_ns, o2_eq_b, o2_ne_b, o2_idx_t0, o2_idx_t1, o1_len_scr, o1_len_t, o1_len_l, o1_len_s, o1_not_b, o1_tuple_l, o1_list_t, o1_list_l, o1_rev_t, o1_neg_i, o1_int_b, isi_s, isi_i, isi_b, isi_n, isi_t, isi_l, isTy, isNone_n, isNone_b, isNone_i, isNone_s, isNone_t, isNone_l, isBool_b, Bool.not_true, Bool.not_false, eq_self, if_true, if_false, Bool.false_eq_true, reduceIte, beq_self_eq_true, m1, q']) rfl rfl).trans rfl)
theorem rows_drawn (n : Nat) (cols : List Col) (gd : GoodC cols) (c : Int) (mo : Nat) (hm : mo ≤ 20) : ∃ rows : List (List D), callF defs (n + 4) F.law_rows [.tuple (cols.map colD), .int c, .int mo] = .ok (.tuple (rows.map PyData.tuple)) ∧ (∀ r ∈ rows, RowOk cols r) ∧ rows.length ≤ 2 * mo := by
  rw [u_law_rows]
  have m1 : callF defs (n + 3) F.law_mix [.int c, .int 9883, .int ((mo : Int) + 1)] = .ok (.int (mix c 9883 ((mo : Int) + 1))) := mix_eq (n + 2) _ 9883 _ (by omega) (by omega) (by omega)
  obtain ⟨b1, b2⟩ := mix_range c 9883 (m := (mo : Int) + 1) (by omega)
  have hr := rng1_ok (n := mix c 9883 ((mo : Int) + 1)) b1 (by omega)
  obtain ⟨e, l, rows, o4, h1, h2, rfl⟩ := forD_range (f := fun d e => ((Tg.nm 4).put d e).bind fun e' => evalSs (callF defs (n + 3)) b_law_rows_1 e') (fun k env => ∃ (rows : List (List D)) (o4 : Option D), (∀ r ∈ rows, RowOk cols r) ∧ rows.length ≤ 2 * k ∧ env = [some (.tuple (cols.map colD)), some (.int c), some (.int mo), some (.list (rows.map PyData.tuple)), o4, none, none])
    (n := (mix c 9883 ((mo : Int) + 1)).toNat) (env := [some (.tuple (cols.map colD)), some (.int c), some (.int mo), some (.list []), none, none, none]) (fun k env hk ⟨rows, o4, h1, h2, h3⟩ => by
      subst h3
      obtain ⟨rows', g1, g2, g3⟩ := row_turn n cols gd c mo k rows h1 (by omega) none none
      exact ⟨_, g1, rows', _, g2, by omega, rfl⟩) ⟨[], none, fun r h => by simp at h, by simp, rfl⟩
  refine ⟨rows, fin_of (seq_next (e := [some (.tuple (cols.map colD)), some (.int c), some (.int mo), some (.list []), none, none, none]) rfl ((seq_for (by simp only [evalSs, evalS, evalE, evalEs, evalIT, Res.bind_ok, Res.bind_bad, Res.bind_exc, Res.tame_ok, Fl.go_next, Fl.go_ret, Fl.fin_next, Fl.fin_ret, slot_some, List.getElem?_cons_zero, List.getElem?_cons_succ, List.set_cons_zero, List.set_cons_succ, put_nm, put_tu, puts_nil, puts_cons, chainK_t, chainK_f, truth_bool, truth_none, truth_int, truth_list, truth_tuple, truth_str, o2_add_i, o2_sub_i, o2_lt_i, o2_le_i, o2_gt_i, o2_ge_i, o2_is_n, o2_is_b, o2_isnot_n, o2_isnot_b, o2_eq_i, o2_eq_s, o2_eq_ns, o2_eq_b, o2_ne_b, o2_idx_t0, o2_idx_t1, o1_len_scr, o1_len_t, o1_len_l, o1_len_s, o1_not_b, o1_tuple_l, o1_list_t, o1_list_l, o1_rev_t, o1_neg_i, o1_int_b, isi_s, isi_i, isi_b, isi_n, isi_t, isi_l, isTy, isNone_n, isNone_b, isNone_i, isNone_s, isNone_t, isNone_l, isBool_b, Bool.not_true, Bool.not_false, eq_self, if_true, if_false, Bool.false_eq_true, reduceIte, beq_self_eq_true, m1, hr] <;> rfl) l).trans (seq_ret (by simp only [evalSs, evalS, evalE, evalEs, evalIT, Res.bind_ok, Res.bind_bad, Res.bind_exc, Res.tame_ok, Fl.go_next, Fl.go_ret, Fl.fin_next, Fl.fin_ret, slot_some, List.getElem?_cons_zero, List.getElem?_cons_succ, List.set_cons_zero, List.set_cons_succ, put_nm, put_tu, puts_nil, puts_cons, chainK_t, chainK_f, truth_bool, truth_none, truth_int, truth_list, truth_tuple, truth_str, o2_add_i, o2_sub_i, o2_lt_i, o2_le_i, o2_gt_i, o2_ge_i, o2_is_n, o2_is_b, o2_isnot_n, o2_isnot_b, o2_eq_i, o2_eq_s, o2_eq_ns, o2_eq_b, o2_ne_b, o2_idx_t0, o2_idx_t1, o1_len_scr, o1_len_t, o1_len_l, o1_len_s, o1_not_b, o1_tuple_l, o1_list_t, o1_list_l, o1_rev_t, o1_neg_i, o1_int_b, isi_s, isi_i, isi_b, isi_n, isi_t, isi_l, isTy, isNone_n, isNone_b, isNone_i, isNone_s, isNone_t, isNone_l, isBool_b, Bool.not_true, Bool.not_false, eq_self, if_true, if_false, Bool.false_eq_true, reduceIte, beq_self_eq_true])))), h1, by omega⟩
theorem house_turn (n : Nat) (c : Int) (k : Nat) (hk : k < 3) (name : Str) (fs : List (Str × Tb)) (hf : ∀ p ∈ fs, GoodT p.2) (h2 : k = 2 → fs ≠ []) (hl : fs.length ≤ 10) (o4 : Option D) :
    ∃ t, GoodT t ∧ evalSs (callF defs (n + 4)) b_law_house_0 [some (.int c), some (.list (fs.map entD)), some (.int k), some (.str name), o4] = .ok (.next [some (.int c), some (.list ((fs ++ [(name, t)]).map entD)), some (.int k), some (.str name), some (.tuple (t.cols.map colD))]) := by
  have e17 : op2 .mul (.int 17) (.int k) = .ok (.int (17 * k)) := o2_mul (mulOk_l (by omega) (by omega))
  have e19 : op2 .mul (.int 19) (.int k) = .ok (.int (19 * k)) := o2_mul (mulOk_l (by omega) (by omega))
  obtain ⟨cols, g, ne, hd⟩ := heading_drawn (n + 1) (c + 17 * k) 5 (by omega) (by omega)
  have em : op2 .mod (.int c) (.int 2) = .ok (.int (c % 2)) := o2_mod (by omega)
  have last : ∀ (cols : List Col) (g : GoodC cols) (ne : cols ≠ []), ∃ t, GoodT t ∧ t.cols = cols ∧ evalSs (callF defs (n + 4)) (.cons (.app 1 (.tup (.cons (.var 3) (.cons (.tup (.cons (.var 4) (.cons (.call F.law_rows (.cons (.var 4) (.cons (.o2 .add (.var 0) (.o2 .mul (.int 19) (.var 2))) (.cons (.int 5) .nil)))) .nil))) .nil)))) .nil) [some (.int c), some (.list (fs.map entD)), some (.int k), some (.str name), some (.tuple (cols.map colD))] = .ok (.next [some (.int c), some (.list ((fs ++ [(name, t)]).map entD)), some (.int k), some (.str name), some (.tuple (cols.map colD))]) := fun cols g ne => by
    obtain ⟨rows, r1, r2, r3⟩ := rows_drawn n cols g (c + 19 * k) 5 (by omega)
    refine ⟨⟨cols, rows⟩, ⟨g, ne, r2, r3⟩, rfl, seq_next ?_ rfl⟩
    have r1 : callF defs (n + 4) F.law_rows [.tuple (cols.map colD), .int (c + 19 * k), .int 5] = .ok (.tuple (rows.map PyData.tuple)) := r1
    simp only [evalS, evalE, evalEs, bind_ok, slot_some, List.getElem?_cons_zero, List.getElem?_cons_succ, o2_add_i, e19, r1]
    rw [app_eq _ 1 _ (fs.map entD) (by rw [List.length_map]; omega), List.map_append]; rfl
  by_cases q : k = 2 ∧ c % 2 = 0
  · obtain ⟨q1, q2⟩ := q
    have hfs := h2 q1
    obtain ⟨p, ps, rfl⟩ : ∃ p ps, fs = p :: ps := by cases fs with | nil => exact absurd rfl hfs | cons p ps => exact ⟨p, ps, rfl⟩
    have gp := hf p (by simp)
    obtain ⟨t, t1, t2, t3⟩ := last p.2.cols gp.g gp.ne
    refine ⟨t, t1, ?_⟩
    rw [t2]
    have hi : op2 .idx (.list ((p :: ps).map entD)) (.int 0) = .ok (entD p) := o2_idx_l (atI_nat (j := 0) rfl)
    have c1 : (((k : Nat) : Int) == 2) = true := by rw [beq_iff_eq]; omega
    have c2 : (c % 2 == 0) = true := by simp [q2]
    unfold b_law_house_0
    exact (seq_asg (by simp only [evalSs, evalS, evalE, evalEs, evalIT, Res.bind_ok, Res.bind_bad, Res.bind_exc, Res.tame_ok, Fl.go_next, Fl.go_ret, Fl.fin_next, Fl.fin_ret, slot_some, List.getElem?_cons_zero, List.getElem?_cons_succ, List.set_cons_zero, List.set_cons_succ, put_nm, put_tu, puts_nil, puts_cons, chainK_t, chainK_f, truth_bool, truth_none, truth_int, truth_list, truth_tuple, truth_str, o2_add_i, o2_sub_i, o2_lt_i, o2_le_i, o2_gt_i, o2_ge_i, o2_is_n, o2_is_b, o2_isnot_n, o2_isnot_b, o2_eq_i, o2_eq_s, o2_eq_ns, o2_eq_b, o2_ne_b, o2_idx_t0, o2_idx_t1, o1_len_scr, o1_len_t, o1_len_l, o1_len_s, o1_not_b, o1_tuple_l, o1_list_t, o1_list_l, o1_rev_t, o1_neg_i, o1_int_b, isi_s, isi_i, isi_b, isi_n, isi_t, isi_l, isTy, isNone_n, isNone_b, isNone_i, isNone_s, isNone_t, isNone_l, isBool_b, Bool.not_true, Bool.not_false, eq_self, if_true, if_false, Bool.false_eq_true, reduceIte, beq_self_eq_true, e17, hd] <;> rfl)).trans ((seq_if_n (d := .bool true) (by simp only [evalSs, evalS, evalE, evalEs, evalIT, Res.bind_ok, Res.bind_bad, Res.bind_exc, Res.tame_ok, Fl.go_next, Fl.go_ret, Fl.fin_next, Fl.fin_ret, slot_some, List.getElem?_cons_zero, List.getElem?_cons_succ, List.set_cons_zero, List.set_cons_succ, put_nm, put_tu, puts_nil, puts_cons, chainK_t, chainK_f, truth_bool, truth_none, truth_int, truth_list, truth_tuple, truth_str, o2_add_i, o2_sub_i, o2_lt_i, o2_le_i, o2_gt_i, o2_ge_i, o2_is_n, o2_is_b, o2_isnot_n, o2_isnot_b, o2_eq_i, o2_eq_s, o2_eq_ns, o2_eq_b, o2_ne_b, o2_idx_t0, o2_idx_t1, o1_len_scr, o1_len_t, o1_len_l, o1_len_s, o1_not_b, o1_tuple_l, o1_list_t, o1_list_l, o1_rev_t, o1_neg_i, o1_int_b, isi_s, isi_i, isi_b, isi_n, isi_t, isi_l, isTy, isNone_n, isNone_b, isNone_i, isNone_s, isNone_t, isNone_l, isBool_b, Bool.not_true, Bool.not_false, eq_self, if_true, if_false, Bool.false_eq_true, reduceIte, beq_self_eq_true, c1, em, c2]) rfl ((seq_asg (d := .tuple (p.2.cols.map colD)) (by simp only [evalSs, evalS, evalE, evalEs, evalIT, Res.bind_ok, Res.bind_bad, Res.bind_exc, Res.tame_ok, Fl.go_next, Fl.go_ret, Fl.fin_next, Fl.fin_ret, slot_some, List.getElem?_cons_zero, List.getElem?_cons_succ, List.set_cons_zero, List.set_cons_succ, put_nm, put_tu, puts_nil, puts_cons, chainK_t, chainK_f, truth_bool, truth_none, truth_int, truth_list, truth_tuple, truth_str, o2_add_i, o2_sub_i, o2_lt_i, o2_le_i, o2_gt_i, o2_ge_i, o2_is_n, o2_is_b, o2_isnot_n, o2_isnot_b, o2_eq_i, o2_eq_s, o2_eq_ns, o2_eq_b, o2_ne_b, o2_idx_t0, o2_idx_t1, o1_len_scr, o1_len_t, o1_len_l, o1_len_s, o1_not_b, o1_tuple_l, o1_list_t, o1_list_l, o1_rev_t, o1_neg_i, o1_int_b, isi_s, isi_i, isi_b, isi_n, isi_t, isi_l, isTy, isNone_n, isNone_b, isNone_i, isNone_s, isNone_t, isNone_l, isBool_b, Bool.not_true, Bool.not_false, eq_self, if_true, if_false, Bool.false_eq_true, reduceIte, beq_self_eq_true, hi, entD, tabD])).trans rfl)).trans t3)
  · obtain ⟨t, t1, t2, t3⟩ := last cols g ne
    refine ⟨t, t1, ?_⟩
    rw [t2]
    have cf : evalE (callF defs (n + 4)) (.and_ (.o2 .eq (.var 2) (.int 2)) (.o2 .eq (.o2 .mod (.var 0) (.int 2)) (.int 0))) [some (.int c), some (.list (fs.map entD)), some (.int k), some (.str name), some (.tuple (cols.map colD))] = .ok (.bool false) := by
      by_cases q1 : k = 2
      · have c1 : (((k : Nat) : Int) == 2) = true := by rw [beq_iff_eq]; omega
        have c2 : (c % 2 == 0) = false := beq_eq_false_iff_ne.mpr fun z => q ⟨q1, z⟩
        simp only [evalSs, evalS, evalE, evalEs, evalIT, Res.bind_ok, Res.bind_bad, Res.bind_exc, Res.tame_ok, Fl.go_next, Fl.go_ret, Fl.fin_next, Fl.fin_ret, slot_some, List.getElem?_cons_zero, List.getElem?_cons_succ, List.set_cons_zero, List.set_cons_succ, put_nm, put_tu, puts_nil, puts_cons, chainK_t, chainK_f, truth_bool, truth_none, truth_int, truth_list, truth_tuple, truth_str, o2_add_i, o2_sub_i, o2_lt_i, o2_le_i, o2_gt_i, o2_ge_i, o2_is_n, o2_is_b, o2_isnot_n, o2_isnot_b, o2_eq_i, o2_eq_s, o2_eq_ns, o2_eq_b, o2_ne_b, o2_idx_t0, o2_idx_t1, o1_len_scr, o1_len_t, o1_len_l, o1_len_s, o1_not_b, o1_tuple_l, o1_list_t, o1_list_l, o1_rev_t, o1_neg_i, o1_int_b, isi_s, isi_i, isi_b, isi_n, isi_t, isi_l, isTy, isNone_n, isNone_b, isNone_i, isNone_s, isNone_t, isNone_l, isBool_b, Bool.not_true, Bool.not_false, eq_self, if_true, if_false, Bool.false_eq_true, reduceIte, beq_self_eq_true, c1, em, c2]
      · have c1 : (((k : Nat) : Int) == 2) = false := beq_eq_false_iff_ne.mpr (by omega)
        simp only [evalSs, evalS, evalE, evalEs, evalIT, Res.bind_ok, Res.bind_bad, Res.bind_exc, Res.tame_ok, Fl.go_next, Fl.go_ret, Fl.fin_next, Fl.fin_ret, slot_some, List.getElem?_cons_zero, List.getElem?_cons_succ, List.set_cons_zero, List.set_cons_succ, put_nm, put_tu, puts_nil, puts_cons, chainK_t, chainK_f, truth_bool, truth_none, truth_int, truth_list, truth_tuple, truth_str, o2_add_i, o2_sub_i, o2_lt_i, o2_le_i, o2_gt_i, o2_ge_i, o2_is_n, o2_is_b, o2_isnot_n, o2_isnot_b, o2_eq_i, o2_eq_s, o2_eq_ns, o2_eq_b, o2_ne_b, o2_idx_t0, o2_idx_t1, o1_len_scr, o1_len_t, o1_len_l, o1_len_s, o1_not_b, o1_tuple_l, o1_list_t, o1_list_l, o1_rev_t, o1_neg_i, o1_int_b, isi_s, isi_i, isi_b, isi_n, isi_t, isi_l, isTy, isNone_n, isNone_b, isNone_i, isNone_s, isNone_t, isNone_l, isBool_b, Bool.not_true, Bool.not_false, eq_self, if_true, if_false, Bool.false_eq_true, reduceIte, beq_self_eq_true, c1]
    unfold b_law_house_0
    exact (seq_asg (by simp only [evalSs, evalS, evalE, evalEs, evalIT, Res.bind_ok, Res.bind_bad, Res.bind_exc, Res.tame_ok, Fl.go_next, Fl.go_ret, Fl.fin_next, Fl.fin_ret, slot_some, List.getElem?_cons_zero, List.getElem?_cons_succ, List.set_cons_zero, List.set_cons_succ, put_nm, put_tu, puts_nil, puts_cons, chainK_t, chainK_f, truth_bool, truth_none, truth_int, truth_list, truth_tuple, truth_str, o2_add_i, o2_sub_i, o2_lt_i, o2_le_i, o2_gt_i, o2_ge_i, o2_is_n, o2_is_b, o2_isnot_n, o2_isnot_b, o2_eq_i, o2_eq_s, o2_eq_ns, o2_eq_b, o2_ne_b, o2_idx_t0, o2_idx_t1, o1_len_scr, o1_len_t, o1_len_l, o1_len_s, o1_not_b, o1_tuple_l, o1_list_t, o1_list_l, o1_rev_t, o1_neg_i, o1_int_b, isi_s, isi_i, isi_b, isi_n, isi_t, isi_l, isTy, isNone_n, isNone_b, isNone_i, isNone_s, isNone_t, isNone_l, isBool_b, Bool.not_true, Bool.not_false, eq_self, if_true, if_false, Bool.false_eq_true, reduceIte, beq_self_eq_true, e17, hd] <;> rfl)).trans ((seq_if_f cf rfl rfl).trans t3)
theorem house_drawn (n : Nat) (c : Int) : ∃ a b d : Tb, GoodT a ∧ GoodT b ∧ GoodT d ∧ callF defs (n + 5) F.law_house [.int c] = .ok (houseD [(w_p, a), (w_q, b), (w_r, d)]) := by
  rw [u_law_house]
  obtain ⟨a, ga, ha⟩ := house_turn n c 0 (by omega) w_p [] (fun p h => by simp at h) (fun z => nomatch z) (by simp) none
  obtain ⟨b, gb, hb⟩ := house_turn n c 1 (by omega) w_q [(w_p, a)] (fun p h => by rw [List.mem_singleton] at h; rw [h]; exact ga) (fun z => nomatch z) (by simp) (some (.tuple (a.cols.map colD)))
  obtain ⟨d, gd, hd⟩ := house_turn n c 2 (by omega) w_r [(w_p, a), (w_q, b)] (fun p h => by
    simp only [List.mem_cons, List.not_mem_nil, or_false] at h
    rcases h with rfl | rfl
    · exact ga
    · exact gb) (fun _ => by simp) (by simp) (some (.tuple (b.cols.map colD)))
  refine ⟨a, b, d, ga, gb, gd, fin_of (seq_next (e := [some (.int c), some (.list []), none, none, none]) rfl ((seq_for (t := .tu (.cons (.nm 2) (.cons (.nm 3) .nil))) (ds := [.tuple [.int ((0 : Nat) : Int), .str w_p], .tuple [.int ((1 : Nat) : Int), .str w_q], .tuple [.int ((2 : Nat) : Int), .str w_r]]) (e := [some (.int c), some (.list (([(w_p, a), (w_q, b)] ++ [(w_r, d)]).map entD)), some (.int ((2 : Nat) : Int)), some (.str w_r), some (.tuple (d.cols.map colD))]) (by simp only [evalSs, evalS, evalE, evalEs, evalIT, Res.bind_ok, Res.bind_bad, Res.bind_exc, Res.tame_ok, Fl.go_next, Fl.go_ret, Fl.fin_next, Fl.fin_ret, slot_some, List.getElem?_cons_zero, List.getElem?_cons_succ, List.set_cons_zero, List.set_cons_succ, put_nm, put_tu, puts_nil, puts_cons, chainK_t, chainK_f, truth_bool, truth_none, truth_int, truth_list, truth_tuple, truth_str, o2_add_i, o2_sub_i, o2_lt_i, o2_le_i, o2_gt_i, o2_ge_i, o2_is_n, o2_is_b, o2_isnot_n, o2_isnot_b, o2_eq_i, o2_eq_s, o2_eq_ns, o2_eq_b, o2_ne_b, o2_idx_t0, o2_idx_t1, o1_len_scr, o1_len_t, o1_len_l, o1_len_s, o1_not_b, o1_tuple_l, o1_list_t, o1_list_l, o1_rev_t, o1_neg_i, o1_int_b, isi_s, isi_i, isi_b, isi_n, isi_t, isi_l, isTy, isNone_n, isNone_b, isNone_i, isNone_s, isNone_t, isNone_l, isBool_b, Bool.not_true, Bool.not_false, eq_self, if_true, if_false, Bool.false_eq_true, reduceIte, beq_self_eq_true, seqOf] <;> rfl) ?_).trans (seq_ret (by simp only [evalSs, evalS, evalE, evalEs, evalIT, Res.bind_ok, Res.bind_bad, Res.bind_exc, Res.tame_ok, Fl.go_next, Fl.go_ret, Fl.fin_next, Fl.fin_ret, slot_some, List.getElem?_cons_zero, List.getElem?_cons_succ, List.set_cons_zero, List.set_cons_succ, put_nm, put_tu, puts_nil, puts_cons, chainK_t, chainK_f, truth_bool, truth_none, truth_int, truth_list, truth_tuple, truth_str, o2_add_i, o2_sub_i, o2_lt_i, o2_le_i, o2_gt_i, o2_ge_i, o2_is_n, o2_is_b, o2_isnot_n, o2_isnot_b, o2_eq_i, o2_eq_s, o2_eq_ns, o2_eq_b, o2_ne_b, o2_idx_t0, o2_idx_t1, o1_len_scr, o1_len_t, o1_len_l, o1_len_s, o1_not_b, o1_tuple_l, o1_list_t, o1_list_l, o1_rev_t, o1_neg_i, o1_int_b, isi_s, isi_i, isi_b, isi_n, isi_t, isi_l, isTy, isNone_n, isNone_b, isNone_i, isNone_s, isNone_t, isNone_l, isBool_b, Bool.not_true, Bool.not_false, eq_self, if_true, if_false, Bool.false_eq_true, reduceIte, beq_self_eq_true] <;> rfl))))⟩
  have ha : evalSs (callF defs (n + 4)) b_law_house_0 [some (.int c), some (.list []), some (.int ((0 : Nat) : Int)), some (.str w_p), none] = _ := ha
  simp only [forD, bind_ok, Fl.go_next, put_tu, puts_cons, puts_nil, put_nm, List.set_cons_succ, List.set_cons_zero, ha]
  have hb : evalSs (callF defs (n + 4)) b_law_house_0 [some (.int c), some (.list (([] ++ [(w_p, a)]).map entD)), some (.int ((1 : Nat) : Int)), some (.str w_q), some (.tuple (a.cols.map colD))] = _ := hb
  simp only [hb, bind_ok, Fl.go_next, put_tu, puts_cons, puts_nil, put_nm, List.set_cons_succ, List.set_cons_zero]
  have hd : evalSs (callF defs (n + 4)) b_law_house_0 [some (.int c), some (.list (([(w_p, a)] ++ [(w_q, b)]).map entD)), some (.int ((2 : Nat) : Int)), some (.str w_r), some (.tuple (b.cols.map colD))] = _ := hd
  simp only [hd, bind_ok, Fl.go_next]
/-! values of kinds, rows, tables, houses: what the program tells -/
def isOf (s : Str) (m : Bool) : D → Bool
  | .none => m
  | .bool _ => w_truth == s
  | .int _ => w_whole == s
  | .str _ => w_text == s
  | _ => false
def isOfC (v c : D) : Bool := match c with
  | .tuple [_, .tuple [.str s, .bool m]] => isOf s m v
  | _ => false
theorem is_of_eq (n : Nat) (v : D) (s : Str) (m : Bool) (h : noDict v = true) : callF defs (n + 2) F.is_of [v, kindD s m] = .ok (.bool (isOf s m v)) := by
  have hs := sort_of_eq n v h
  rw [u_is_of]
  cases v with
  | dict _ => simp [noDict] at h
  | _ => simp only [evalSs, evalS, evalE, evalEs, evalIT, Res.bind_ok, Res.bind_bad, Res.bind_exc, Res.tame_ok, Fl.go_next, Fl.go_ret, Fl.fin_next, Fl.fin_ret, slot_some, List.getElem?_cons_zero, List.getElem?_cons_succ, List.set_cons_zero, List.set_cons_succ, put_nm, put_tu, puts_nil, puts_cons, chainK_t, chainK_f, truth_bool, truth_none, truth_int, truth_list, truth_tuple, truth_str, o2_add_i, o2_sub_i, o2_lt_i, o2_le_i, o2_gt_i, o2_ge_i, o2_is_n, o2_is_b, o2_isnot_n, o2_isnot_b, o2_eq_i, o2_eq_s, o2_eq_ns, o2_eq_b, o2_ne_b, o2_idx_t0, o2_idx_t1, o1_len_scr, o1_len_t, o1_len_l, o1_len_s, o1_not_b, o1_tuple_l, o1_list_t, o1_list_l, o1_rev_t, o1_neg_i, o1_int_b, isi_s, isi_i, isi_b, isi_n, isi_t, isi_l, isTy, isNone_n, isNone_b, isNone_i, isNone_s, isNone_t, isNone_l, isBool_b, Bool.not_true, Bool.not_false, eq_self, if_true, if_false, Bool.false_eq_true, reduceIte, beq_self_eq_true, f_is_of, hs, sortS, optS, isOf]
def isPairOf (p : D) : Bool := match p with
  | .tuple [v, c] => isOfC v c
  | _ => false
def isRow (hs : List D) : D → Bool
  | .tuple vs => decide (vs.length = hs.length) && (zipD vs hs).all isPairOf
  | _ => false
theorem zipD_mem : ∀ {vs hs : List D} {d : D}, d ∈ zipD vs hs → ∃ v c, d = .tuple [v, c] ∧ v ∈ vs ∧ c ∈ hs
  | [], _, _, h => by simp [zipD] at h
  | _ :: _, [], _, h => by simp [zipD] at h
  | v :: vs, c :: hs, d, h => by
    simp only [zipD, List.mem_cons] at h
    rcases h with rfl | h
    · exact ⟨v, c, rfl, by simp, by simp⟩
    · obtain ⟨v', c', e, h1, h2⟩ := zipD_mem h
      exact ⟨v', c', e, List.mem_cons_of_mem _ h1, List.mem_cons_of_mem _ h2⟩
theorem col_shape {c : D} (h : isCol c = true) : ∃ x s m, c = .tuple [.str x, kindD s m] ∧ s ∈ sorts3 := by
  unfold isCol at h
  split at h
  · rename_i a b
    simp only [Bool.and_eq_true] at h
    obtain ⟨h1, h2⟩ := h
    obtain ⟨x, rfl⟩ := isName_str h1
    unfold isKind at h2
    split at h2
    · rename_i a m
      cases a with
      | str s => exact ⟨x, s, m, rfl, of_decide_eq_true h2⟩
      | _ => cases h2
    · cases h2
  · cases h
theorem len_ne (n m : Nat) : (!((n : Int) == (m : Int))) = !decide (n = m) := by
  by_cases h : n = m
  · subst h; simp
  · rw [decide_eq_false h, beq_eq_false_iff_ne.mpr (by omega)]
theorem is_row_eq (n : Nat) (d : D) (hs : List D) (hc : ∀ c ∈ hs, isCol c = true) (h : noDict d = true) : callF defs (n + 3) F.is_row [d, .tuple hs] = .ok (.bool (isRow hs d)) := by
  rw [u_is_row]
  cases d with
  | tuple vs =>
    by_cases q : vs.length = hs.length
    · have hz : evalE (callF defs (n + 2)) c_is_row_0 [some (.tuple vs), some (.tuple hs), none, none] = .ok (.list ((zipD vs hs).map fun d => .bool (isPairOf d))) := by
        unfold c_is_row_0
        refine comp_any (by simp only [evalSs, evalS, evalE, evalEs, evalIT, Res.bind_ok, Res.bind_bad, Res.bind_exc, Res.tame_ok, Fl.go_next, Fl.go_ret, Fl.fin_next, Fl.fin_ret, slot_some, List.getElem?_cons_zero, List.getElem?_cons_succ, List.set_cons_zero, List.set_cons_succ, put_nm, put_tu, puts_nil, puts_cons, chainK_t, chainK_f, truth_bool, truth_none, truth_int, truth_list, truth_tuple, truth_str, o2_add_i, o2_sub_i, o2_lt_i, o2_le_i, o2_gt_i, o2_ge_i, o2_is_n, o2_is_b, o2_isnot_n, o2_isnot_b, o2_eq_i, o2_eq_s, o2_eq_ns, o2_eq_b, o2_ne_b, o2_idx_t0, o2_idx_t1, o1_len_scr, o1_len_t, o1_len_l, o1_len_s, o1_not_b, o1_tuple_l, o1_list_t, o1_list_l, o1_rev_t, o1_neg_i, o1_int_b, isi_s, isi_i, isi_b, isi_n, isi_t, isi_l, isTy, isNone_n, isNone_b, isNone_i, isNone_s, isNone_t, isNone_l, isBool_b, Bool.not_true, Bool.not_false, eq_self, if_true, if_false, Bool.false_eq_true, reduceIte, beq_self_eq_true, seqOf]) fun d hd => ?_
        obtain ⟨v, c, rfl, h1, h2⟩ := zipD_mem hd
        obtain ⟨x, s, m, rfl, _⟩ := col_shape (hc c h2)
        have := is_of_eq n v s m (noDicts_mem (by simpa [noDict] using h) h1)
        exact ⟨_, by simp only [evalSs, evalS, evalE, evalEs, evalIT, Res.bind_ok, Res.bind_bad, Res.bind_exc, Res.tame_ok, Fl.go_next, Fl.go_ret, Fl.fin_next, Fl.fin_ret, slot_some, List.getElem?_cons_zero, List.getElem?_cons_succ, List.set_cons_zero, List.set_cons_succ, put_nm, put_tu, puts_nil, puts_cons, chainK_t, chainK_f, truth_bool, truth_none, truth_int, truth_list, truth_tuple, truth_str, o2_add_i, o2_sub_i, o2_lt_i, o2_le_i, o2_gt_i, o2_ge_i, o2_is_n, o2_is_b, o2_isnot_n, o2_isnot_b, o2_eq_i, o2_eq_s, o2_eq_ns, o2_eq_b, o2_ne_b, o2_idx_t0, o2_idx_t1, o1_len_scr, o1_len_t, o1_len_l, o1_len_s, o1_not_b, o1_tuple_l, o1_list_t, o1_list_l, o1_rev_t, o1_neg_i, o1_int_b, isi_s, isi_i, isi_b, isi_n, isi_t, isi_l, isTy, isNone_n, isNone_b, isNone_i, isNone_s, isNone_t, isNone_l, isBool_b, Bool.not_true, Bool.not_false, eq_self, if_true, if_false, Bool.false_eq_true, reduceIte, beq_self_eq_true] <;> rfl, by simp only [evalSs, evalS, evalE, evalEs, evalIT, Res.bind_ok, Res.bind_bad, Res.bind_exc, Res.tame_ok, Fl.go_next, Fl.go_ret, Fl.fin_next, Fl.fin_ret, slot_some, List.getElem?_cons_zero, List.getElem?_cons_succ, List.set_cons_zero, List.set_cons_succ, put_nm, put_tu, puts_nil, puts_cons, chainK_t, chainK_f, truth_bool, truth_none, truth_int, truth_list, truth_tuple, truth_str, o2_add_i, o2_sub_i, o2_lt_i, o2_le_i, o2_gt_i, o2_ge_i, o2_is_n, o2_is_b, o2_isnot_n, o2_isnot_b, o2_eq_i, o2_eq_s, o2_eq_ns, o2_eq_b, o2_ne_b, o2_idx_t0, o2_idx_t1, o1_len_scr, o1_len_t, o1_len_l, o1_len_s, o1_not_b, o1_tuple_l, o1_list_t, o1_list_l, o1_rev_t, o1_neg_i, o1_int_b, isi_s, isi_i, isi_b, isi_n, isi_t, isi_l, isTy, isNone_n, isNone_b, isNone_i, isNone_s, isNone_t, isNone_l, isBool_b, Bool.not_true, Bool.not_false, eq_self, if_true, if_false, Bool.false_eq_true, reduceIte, beq_self_eq_true, this, isPairOf, isOfC]⟩
      simp only [evalSs, evalS, evalE, evalEs, evalIT, Res.bind_ok, Res.bind_bad, Res.bind_exc, Res.tame_ok, Fl.go_next, Fl.go_ret, Fl.fin_next, Fl.fin_ret, slot_some, List.getElem?_cons_zero, List.getElem?_cons_succ, List.set_cons_zero, List.set_cons_succ, put_nm, put_tu, puts_nil, puts_cons, chainK_t, chainK_f, truth_bool, truth_none, truth_int, truth_list, truth_tuple, truth_str, o2_add_i, o2_sub_i, o2_lt_i, o2_le_i, o2_gt_i, o2_ge_i, o2_is_n, o2_is_b, o2_isnot_n, o2_isnot_b, o2_eq_i, o2_eq_s, o2_eq_ns, o2_eq_b, o2_ne_b, o2_idx_t0, o2_idx_t1, o1_len_scr, o1_len_t, o1_len_l, o1_len_s, o1_not_b, o1_tuple_l, o1_list_t, o1_list_l, o1_rev_t, o1_neg_i, o1_int_b, isi_s, isi_i, isi_b, isi_n, isi_t, isi_l, isTy, isNone_n, isNone_b, isNone_i, isNone_s, isNone_t, isNone_l, isBool_b, Bool.not_true, Bool.not_false, eq_self, if_true, if_false, Bool.false_eq_true, reduceIte, beq_self_eq_true, f_is_row, o2_ne_i, len_ne, decide_eq_true q, hz, o1_all, isRow, Bool.true_and]
    · simp only [evalSs, evalS, evalE, evalEs, evalIT, Res.bind_ok, Res.bind_bad, Res.bind_exc, Res.tame_ok, Fl.go_next, Fl.go_ret, Fl.fin_next, Fl.fin_ret, slot_some, List.getElem?_cons_zero, List.getElem?_cons_succ, List.set_cons_zero, List.set_cons_succ, put_nm, put_tu, puts_nil, puts_cons, chainK_t, chainK_f, truth_bool, truth_none, truth_int, truth_list, truth_tuple, truth_str, o2_add_i, o2_sub_i, o2_lt_i, o2_le_i, o2_gt_i, o2_ge_i, o2_is_n, o2_is_b, o2_isnot_n, o2_isnot_b, o2_eq_i, o2_eq_s, o2_eq_ns, o2_eq_b, o2_ne_b, o2_idx_t0, o2_idx_t1, o1_len_scr, o1_len_t, o1_len_l, o1_len_s, o1_not_b, o1_tuple_l, o1_list_t, o1_list_l, o1_rev_t, o1_neg_i, o1_int_b, isi_s, isi_i, isi_b, isi_n, isi_t, isi_l, isTy, isNone_n, isNone_b, isNone_i, isNone_s, isNone_t, isNone_l, isBool_b, Bool.not_true, Bool.not_false, eq_self, if_true, if_false, Bool.false_eq_true, reduceIte, beq_self_eq_true, f_is_row, o2_ne_i, len_ne, decide_eq_false q, isRow, Bool.false_and]
  | dict _ => simp [noDict] at h
  | _ => simp only [evalSs, evalS, evalE, evalEs, evalIT, Res.bind_ok, Res.bind_bad, Res.bind_exc, Res.tame_ok, Fl.go_next, Fl.go_ret, Fl.fin_next, Fl.fin_ret, slot_some, List.getElem?_cons_zero, List.getElem?_cons_succ, List.set_cons_zero, List.set_cons_succ, put_nm, put_tu, puts_nil, puts_cons, chainK_t, chainK_f, truth_bool, truth_none, truth_int, truth_list, truth_tuple, truth_str, o2_add_i, o2_sub_i, o2_lt_i, o2_le_i, o2_gt_i, o2_ge_i, o2_is_n, o2_is_b, o2_isnot_n, o2_isnot_b, o2_eq_i, o2_eq_s, o2_eq_ns, o2_eq_b, o2_ne_b, o2_idx_t0, o2_idx_t1, o1_len_scr, o1_len_t, o1_len_l, o1_len_s, o1_not_b, o1_tuple_l, o1_list_t, o1_list_l, o1_rev_t, o1_neg_i, o1_int_b, isi_s, isi_i, isi_b, isi_n, isi_t, isi_l, isTy, isNone_n, isNone_b, isNone_i, isNone_s, isNone_t, isNone_l, isBool_b, Bool.not_true, Bool.not_false, eq_self, if_true, if_false, Bool.false_eq_true, reduceIte, beq_self_eq_true, f_is_row, isRow]
def itemsT : D → List D
  | .tuple ds => ds
  | _ => []
def isTable : D → Bool
  | .tuple [h, .tuple rs] => isHeading h && rs.all (isRow (itemsT h))
  | _ => false
theorem heading_shape {h : D} (q : isHeading h = true) : ∃ hs, h = .tuple hs ∧ ∀ c ∈ hs, isCol c = true := by
  cases h with
  | tuple hs =>
    rw [isHeading_t, Bool.and_eq_true, Bool.and_eq_true] at q
    exact ⟨hs, rfl, List.all_eq_true.mp q.1.2⟩
  | _ => cases q
theorem fine_len {h : D} (hf : fine 1000 h = true) : ∀ ds, h = .tuple ds → ds.length ≤ 1000 := fun ds e => by
  subst e; exact (fine_tuple.mp hf).1
theorem len2 (ds : List D) : ds.length = 2 ↔ ∃ a b, ds = [a, b] := by
  constructor
  · intro h
    match ds, h with
    | [a, b], _ => exact ⟨a, b, rfl⟩
  · rintro ⟨a, b, rfl⟩; rfl
theorem table_len {ds : List D} (h : ds.length ≠ 2) : isTable (.tuple ds) = false := by
  match ds, h with
  | [], _ => rfl
  | [_], _ => rfl
  | [_, _], h => exact absurd rfl h
  | a :: b :: _ :: _, _ => cases b <;> rfl
theorem is_table_eq (n : Nat) (d : D) (hf : fine 1000 d = true) : callF defs (n + 4) F.is_table [d] = .ok (.bool (isTable d)) := by
  rw [u_is_table]
  have nd := fine_noDict d hf
  cases d with
  | tuple ds =>
    by_cases q : ds.length = 2
    · obtain ⟨h, r, rfl⟩ := (len2 ds).mp q
      have hfh : fine 1000 h = true := (fine_tuple.mp hf).2 h (by simp)
      have hfr : fine 1000 r = true := (fine_tuple.mp hf).2 r (by simp)
      have hh := is_heading_eq n h (fine_noDict h hfh) (fine_len hfh)
      have c0 : ((([h, r] : List D).length : Int) == 2) = true := rfl
      cases e : isHeading h with
      | false =>
        rw [e] at hh
        have : isTable (.tuple [h, r]) = false := by cases r <;> simp [isTable, e]
        simp only [evalSs, evalS, evalE, evalEs, evalIT, Res.bind_ok, Res.bind_bad, Res.bind_exc, Res.tame_ok, Fl.go_next, Fl.go_ret, Fl.fin_next, Fl.fin_ret, slot_some, List.getElem?_cons_zero, List.getElem?_cons_succ, List.set_cons_zero, List.set_cons_succ, put_nm, put_tu, puts_nil, puts_cons, chainK_t, chainK_f, truth_bool, truth_none, truth_int, truth_list, truth_tuple, truth_str, o2_add_i, o2_sub_i, o2_lt_i, o2_le_i, o2_gt_i, o2_ge_i, o2_is_n, o2_is_b, o2_isnot_n, o2_isnot_b, o2_eq_i, o2_eq_s, o2_eq_ns, o2_eq_b, o2_ne_b, o2_idx_t0, o2_idx_t1, o1_len_scr, o1_len_t, o1_len_l, o1_len_s, o1_not_b, o1_tuple_l, o1_list_t, o1_list_l, o1_rev_t, o1_neg_i, o1_int_b, isi_s, isi_i, isi_b, isi_n, isi_t, isi_l, isTy, isNone_n, isNone_b, isNone_i, isNone_s, isNone_t, isNone_l, isBool_b, Bool.not_true, Bool.not_false, eq_self, if_true, if_false, Bool.false_eq_true, reduceIte, beq_self_eq_true, f_is_table, o2_ne_i, c0, hh, this]
      | true =>
        rw [e] at hh
        obtain ⟨hs, rfl, hc⟩ := heading_shape e
        cases r with
        | tuple rs =>
          have hz : evalE (callF defs (n + 3)) c_is_table_0 [some (.tuple [.tuple hs, .tuple rs]), none] = .ok (.list (rs.map fun d => .bool (isRow hs d))) := by
            unfold c_is_table_0
            refine comp_nm (by simp only [evalSs, evalS, evalE, evalEs, evalIT, Res.bind_ok, Res.bind_bad, Res.bind_exc, Res.tame_ok, Fl.go_next, Fl.go_ret, Fl.fin_next, Fl.fin_ret, slot_some, List.getElem?_cons_zero, List.getElem?_cons_succ, List.set_cons_zero, List.set_cons_succ, put_nm, put_tu, puts_nil, puts_cons, chainK_t, chainK_f, truth_bool, truth_none, truth_int, truth_list, truth_tuple, truth_str, o2_add_i, o2_sub_i, o2_lt_i, o2_le_i, o2_gt_i, o2_ge_i, o2_is_n, o2_is_b, o2_isnot_n, o2_isnot_b, o2_eq_i, o2_eq_s, o2_eq_ns, o2_eq_b, o2_ne_b, o2_idx_t0, o2_idx_t1, o1_len_scr, o1_len_t, o1_len_l, o1_len_s, o1_not_b, o1_tuple_l, o1_list_t, o1_list_l, o1_rev_t, o1_neg_i, o1_int_b, isi_s, isi_i, isi_b, isi_n, isi_t, isi_l, isTy, isNone_n, isNone_b, isNone_i, isNone_s, isNone_t, isNone_l, isBool_b, Bool.not_true, Bool.not_false, eq_self, if_true, if_false, Bool.false_eq_true, reduceIte, beq_self_eq_true, itemsOf]) fun d hd => ?_
            have := is_row_eq n d hs hc (fine_noDict d ((fine_tuple.mp hfr).2 d hd))
            simp only [evalSs, evalS, evalE, evalEs, evalIT, Res.bind_ok, Res.bind_bad, Res.bind_exc, Res.tame_ok, Fl.go_next, Fl.go_ret, Fl.fin_next, Fl.fin_ret, slot_some, List.getElem?_cons_zero, List.getElem?_cons_succ, List.set_cons_zero, List.set_cons_succ, put_nm, put_tu, puts_nil, puts_cons, chainK_t, chainK_f, truth_bool, truth_none, truth_int, truth_list, truth_tuple, truth_str, o2_add_i, o2_sub_i, o2_lt_i, o2_le_i, o2_gt_i, o2_ge_i, o2_is_n, o2_is_b, o2_isnot_n, o2_isnot_b, o2_eq_i, o2_eq_s, o2_eq_ns, o2_eq_b, o2_ne_b, o2_idx_t0, o2_idx_t1, o1_len_scr, o1_len_t, o1_len_l, o1_len_s, o1_not_b, o1_tuple_l, o1_list_t, o1_list_l, o1_rev_t, o1_neg_i, o1_int_b, isi_s, isi_i, isi_b, isi_n, isi_t, isi_l, isTy, isNone_n, isNone_b, isNone_i, isNone_s, isNone_t, isNone_l, isBool_b, Bool.not_true, Bool.not_false, eq_self, if_true, if_false, Bool.false_eq_true, reduceIte, beq_self_eq_true, this]
          simp only [evalSs, evalS, evalE, evalEs, evalIT, Res.bind_ok, Res.bind_bad, Res.bind_exc, Res.tame_ok, Fl.go_next, Fl.go_ret, Fl.fin_next, Fl.fin_ret, slot_some, List.getElem?_cons_zero, List.getElem?_cons_succ, List.set_cons_zero, List.set_cons_succ, put_nm, put_tu, puts_nil, puts_cons, chainK_t, chainK_f, truth_bool, truth_none, truth_int, truth_list, truth_tuple, truth_str, o2_add_i, o2_sub_i, o2_lt_i, o2_le_i, o2_gt_i, o2_ge_i, o2_is_n, o2_is_b, o2_isnot_n, o2_isnot_b, o2_eq_i, o2_eq_s, o2_eq_ns, o2_eq_b, o2_ne_b, o2_idx_t0, o2_idx_t1, o1_len_scr, o1_len_t, o1_len_l, o1_len_s, o1_not_b, o1_tuple_l, o1_list_t, o1_list_l, o1_rev_t, o1_neg_i, o1_int_b, isi_s, isi_i, isi_b, isi_n, isi_t, isi_l, isTy, isNone_n, isNone_b, isNone_i, isNone_s, isNone_t, isNone_l, isBool_b, Bool.not_true, Bool.not_false, eq_self, if_true, if_false, Bool.false_eq_true, reduceIte, beq_self_eq_true, f_is_table, o2_ne_i, c0, hh, hz, o1_all, isTable, e, itemsT, Bool.true_and]
        | dict _ => simp [fine] at hfr
        | _ => simp only [evalSs, evalS, evalE, evalEs, evalIT, Res.bind_ok, Res.bind_bad, Res.bind_exc, Res.tame_ok, Fl.go_next, Fl.go_ret, Fl.fin_next, Fl.fin_ret, slot_some, List.getElem?_cons_zero, List.getElem?_cons_succ, List.set_cons_zero, List.set_cons_succ, put_nm, put_tu, puts_nil, puts_cons, chainK_t, chainK_f, truth_bool, truth_none, truth_int, truth_list, truth_tuple, truth_str, o2_add_i, o2_sub_i, o2_lt_i, o2_le_i, o2_gt_i, o2_ge_i, o2_is_n, o2_is_b, o2_isnot_n, o2_isnot_b, o2_eq_i, o2_eq_s, o2_eq_ns, o2_eq_b, o2_ne_b, o2_idx_t0, o2_idx_t1, o1_len_scr, o1_len_t, o1_len_l, o1_len_s, o1_not_b, o1_tuple_l, o1_list_t, o1_list_l, o1_rev_t, o1_neg_i, o1_int_b, isi_s, isi_i, isi_b, isi_n, isi_t, isi_l, isTy, isNone_n, isNone_b, isNone_i, isNone_s, isNone_t, isNone_l, isBool_b, Bool.not_true, Bool.not_false, eq_self, if_true, if_false, Bool.false_eq_true, reduceIte, beq_self_eq_true, f_is_table, o2_ne_i, c0, hh, isTable]
    · have c0 : ((ds.length : Int) == 2) = false := beq_eq_false_iff_ne.mpr (by omega)
      simp only [evalSs, evalS, evalE, evalEs, evalIT, Res.bind_ok, Res.bind_bad, Res.bind_exc, Res.tame_ok, Fl.go_next, Fl.go_ret, Fl.fin_next, Fl.fin_ret, slot_some, List.getElem?_cons_zero, List.getElem?_cons_succ, List.set_cons_zero, List.set_cons_succ, put_nm, put_tu, puts_nil, puts_cons, chainK_t, chainK_f, truth_bool, truth_none, truth_int, truth_list, truth_tuple, truth_str, o2_add_i, o2_sub_i, o2_lt_i, o2_le_i, o2_gt_i, o2_ge_i, o2_is_n, o2_is_b, o2_isnot_n, o2_isnot_b, o2_eq_i, o2_eq_s, o2_eq_ns, o2_eq_b, o2_ne_b, o2_idx_t0, o2_idx_t1, o1_len_scr, o1_len_t, o1_len_l, o1_len_s, o1_not_b, o1_tuple_l, o1_list_t, o1_list_l, o1_rev_t, o1_neg_i, o1_int_b, isi_s, isi_i, isi_b, isi_n, isi_t, isi_l, isTy, isNone_n, isNone_b, isNone_i, isNone_s, isNone_t, isNone_l, isBool_b, Bool.not_true, Bool.not_false, eq_self, if_true, if_false, Bool.false_eq_true, reduceIte, beq_self_eq_true, f_is_table, o2_ne_i, c0, table_len q]
  | dict _ => simp [fine] at hf
  | _ => simp only [evalSs, evalS, evalE, evalEs, evalIT, Res.bind_ok, Res.bind_bad, Res.bind_exc, Res.tame_ok, Fl.go_next, Fl.go_ret, Fl.fin_next, Fl.fin_ret, slot_some, List.getElem?_cons_zero, List.getElem?_cons_succ, List.set_cons_zero, List.set_cons_succ, put_nm, put_tu, puts_nil, puts_cons, chainK_t, chainK_f, truth_bool, truth_none, truth_int, truth_list, truth_tuple, truth_str, o2_add_i, o2_sub_i, o2_lt_i, o2_le_i, o2_gt_i, o2_ge_i, o2_is_n, o2_is_b, o2_isnot_n, o2_isnot_b, o2_eq_i, o2_eq_s, o2_eq_ns, o2_eq_b, o2_ne_b, o2_idx_t0, o2_idx_t1, o1_len_scr, o1_len_t, o1_len_l, o1_len_s, o1_not_b, o1_tuple_l, o1_list_t, o1_list_l, o1_rev_t, o1_neg_i, o1_int_b, isi_s, isi_i, isi_b, isi_n, isi_t, isi_l, isTy, isNone_n, isNone_b, isNone_i, isNone_s, isNone_t, isNone_l, isBool_b, Bool.not_true, Bool.not_false, eq_self, if_true, if_false, Bool.false_eq_true, reduceIte, beq_self_eq_true, f_is_table, isTable]
def nameTab : D → Bool
  | .tuple [a, t] => isName a && isTable t
  | _ => false
def ltAt (ts : List D) (k : Int) : Bool := decide ((nameOf ((L2.atI ts (k - 1)).getD .none)).cps.toList < (nameOf ((L2.atI ts k).getD .none)).cps.toList)
def ltAtD (ts : List D) : D → Bool
  | .int k => ltAt ts k
  | _ => false
def rising (ts : List D) : Bool := (rangeD 1 ((ts.length : Int) - 1).toNat).all (ltAtD ts)
def isHouse : D → Bool
  | .tuple ts => ts.all nameTab && rising ts
  | _ => false
theorem rng2_ok {n : Int} (h' : n ≤ 1000000) (h0 : 0 ≤ n) : rng2D (.int 1) (.int n) = .ok (rangeD 1 (n - 1).toNat) := by
  show (if decide (-(2 ^ 62) ≤ (1 : Int) ∧ (1 : Int) < 2 ^ 62 ∧ -(2 ^ 62) ≤ n ∧ n < 2 ^ 62 ∧ n - 1 ≤ (sizeLine : Int)) then Res.ok (rangeD 1 (n - 1).toNat) else .bad) = _
  rw [if_pos (decide_eq_true ⟨by omega, by omega, by omega, by omega, by rw [sizeLine_eq]; omega⟩)]
theorem nameTab_shape {d : D} (h : nameTab d = true) : ∃ x t, d = .tuple [.str x, t] := by
  unfold nameTab at h
  split at h
  · rename_i a t
    simp only [Bool.and_eq_true] at h
    obtain ⟨x, rfl⟩ := isName_str h.1
    exact ⟨x, t, rfl⟩
  · cases h
theorem house_at {ts : List D} (ha : ts.all nameTab = true) {k : Int} (h0 : 0 ≤ k) (h1 : k < ts.length) : ∃ x t, op2 .idx (.tuple ts) (.int k) = .ok (.tuple [.str x, t]) ∧ nameOf ((L2.atI ts k).getD .none) = x := by
  obtain ⟨d, hd, e, _⟩ := atI_in (xs := ts) h0 h1
  obtain ⟨x, t, rfl⟩ := nameTab_shape (List.all_eq_true.mp ha d hd)
  exact ⟨x, t, o2_idx_t e, by rw [e]; rfl⟩
theorem o2_lt_s (x y : Str) : op2 .lt (.str x) (.str y) = .ok (.bool (decide (x.cps.toList < y.cps.toList))) := rfl
theorem nameTab_pair {d : D} (h : nameTab d = true) : isPair d = true := by
  obtain ⟨x, t, rfl⟩ := nameTab_shape h; rfl
theorem ltAt_eq {ts : List D} {k : Int} {x y : Str} (h1 : nameOf ((L2.atI ts (k - 1)).getD .none) = x) (h2 : nameOf ((L2.atI ts k).getD .none) = y) : ltAt ts k = decide (x.cps.toList < y.cps.toList) := by
  subst h1 h2; rfl
theorem house_lt (ρ : Nat → List D → Res D) (ts : List D) (hl : (ts.length : Int) ≤ 1000000) (ha : ts.all nameTab = true) : evalE ρ c_is_house_1 [some (.tuple ts), none, none, none] = .ok (.list ((rangeD 1 ((ts.length : Int) - 1).toNat).map fun d => .bool (ltAtD ts d))) := by
  unfold c_is_house_1
  refine comp_nm (it_rng2 (i := 1) (j := (ts.length : Int)) (by simp only [evalSs, evalS, evalE, evalEs, evalIT, Res.bind_ok, Res.bind_bad, Res.bind_exc, Res.tame_ok, Fl.go_next, Fl.go_ret, Fl.fin_next, Fl.fin_ret, slot_some, List.getElem?_cons_zero, List.getElem?_cons_succ, List.set_cons_zero, List.set_cons_succ, put_nm, put_tu, puts_nil, puts_cons, chainK_t, chainK_f, truth_bool, truth_none, truth_int, truth_list, truth_tuple, truth_str, o2_add_i, o2_sub_i, o2_lt_i, o2_le_i, o2_gt_i, o2_ge_i, o2_is_n, o2_is_b, o2_isnot_n, o2_isnot_b, o2_eq_i, o2_eq_s, o2_eq_ns, o2_eq_b, o2_ne_b, o2_idx_t0, o2_idx_t1, o1_len_scr, o1_len_t, o1_len_l, o1_len_s, o1_not_b, o1_tuple_l, o1_list_t, o1_list_l, o1_rev_t, o1_neg_i, o1_int_b, isi_s, isi_i, isi_b, isi_n, isi_t, isi_l, isTy, isNone_n, isNone_b, isNone_i, isNone_s, isNone_t, isNone_l, isBool_b, Bool.not_true, Bool.not_false, eq_self, if_true, if_false, Bool.false_eq_true, reduceIte, beq_self_eq_true]) (by simp only [evalSs, evalS, evalE, evalEs, evalIT, Res.bind_ok, Res.bind_bad, Res.bind_exc, Res.tame_ok, Fl.go_next, Fl.go_ret, Fl.fin_next, Fl.fin_ret, slot_some, List.getElem?_cons_zero, List.getElem?_cons_succ, List.set_cons_zero, List.set_cons_succ, put_nm, put_tu, puts_nil, puts_cons, chainK_t, chainK_f, truth_bool, truth_none, truth_int, truth_list, truth_tuple, truth_str, o2_add_i, o2_sub_i, o2_lt_i, o2_le_i, o2_gt_i, o2_ge_i, o2_is_n, o2_is_b, o2_isnot_n, o2_isnot_b, o2_eq_i, o2_eq_s, o2_eq_ns, o2_eq_b, o2_ne_b, o2_idx_t0, o2_idx_t1, o1_len_scr, o1_len_t, o1_len_l, o1_len_s, o1_not_b, o1_tuple_l, o1_list_t, o1_list_l, o1_rev_t, o1_neg_i, o1_int_b, isi_s, isi_i, isi_b, isi_n, isi_t, isi_l, isTy, isNone_n, isNone_b, isNone_i, isNone_s, isNone_t, isNone_l, isBool_b, Bool.not_true, Bool.not_false, eq_self, if_true, if_false, Bool.false_eq_true, reduceIte, beq_self_eq_true]) (rng2_ok hl (by omega))) fun d hd => ?_
  obtain ⟨k, rfl, k0, k1⟩ := mem_range hd
  obtain ⟨x, t, e1, e2⟩ := house_at ha (k := k - 1) (by omega) (by omega)
  obtain ⟨x', t', e3, e4⟩ := house_at ha (k := k) (by omega) (by omega)
  have e5 : ltAtD ts (.int k) = decide (x.cps.toList < x'.cps.toList) := ltAt_eq e2 e4
  rw [e5]
  simp only [evalSs, evalS, evalE, evalEs, evalIT, Res.bind_ok, Res.bind_bad, Res.bind_exc, Res.tame_ok, Fl.go_next, Fl.go_ret, Fl.fin_next, Fl.fin_ret, slot_some, List.getElem?_cons_zero, List.getElem?_cons_succ, List.set_cons_zero, List.set_cons_succ, put_nm, put_tu, puts_nil, puts_cons, chainK_t, chainK_f, truth_bool, truth_none, truth_int, truth_list, truth_tuple, truth_str, o2_add_i, o2_sub_i, o2_lt_i, o2_le_i, o2_gt_i, o2_ge_i, o2_is_n, o2_is_b, o2_isnot_n, o2_isnot_b, o2_eq_i, o2_eq_s, o2_eq_ns, o2_eq_b, o2_ne_b, o2_idx_t0, o2_idx_t1, o1_len_scr, o1_len_t, o1_len_l, o1_len_s, o1_not_b, o1_tuple_l, o1_list_t, o1_list_l, o1_rev_t, o1_neg_i, o1_int_b, isi_s, isi_i, isi_b, isi_n, isi_t, isi_l, isTy, isNone_n, isNone_b, isNone_i, isNone_s, isNone_t, isNone_l, isBool_b, Bool.not_true, Bool.not_false, eq_self, if_true, if_false, Bool.false_eq_true, reduceIte, beq_self_eq_true, e1, e3, o2_lt_s]
theorem is_house_eq (n : Nat) (d : D) (hf : fine 1000 d = true) : callF defs (n + 5) F.is_house [d] = .ok (.bool (isHouse d)) := by
  rw [u_is_house]
  have nd := fine_noDict d hf
  have ht := are_tuples_eq (n + 3) d nd
  cases d with
  | tuple ts =>
    have hl := (fine_tuple.mp hf).1
    cases hp : ts.all isPair with
    | false =>
      simp only [hp] at ht
      have e : isHouse (.tuple ts) = false := by
        have : ts.all nameTab = false := by
          rw [Bool.eq_false_iff]
          intro z
          have : ts.all isPair = true := List.all_eq_true.mpr fun x hx => nameTab_pair (List.all_eq_true.mp z x hx)
          rw [hp] at this; cases this
        simp only [isHouse, this, Bool.false_and]
      simp only [evalSs, evalS, evalE, evalEs, evalIT, Res.bind_ok, Res.bind_bad, Res.bind_exc, Res.tame_ok, Fl.go_next, Fl.go_ret, Fl.fin_next, Fl.fin_ret, slot_some, List.getElem?_cons_zero, List.getElem?_cons_succ, List.set_cons_zero, List.set_cons_succ, put_nm, put_tu, puts_nil, puts_cons, chainK_t, chainK_f, truth_bool, truth_none, truth_int, truth_list, truth_tuple, truth_str, o2_add_i, o2_sub_i, o2_lt_i, o2_le_i, o2_gt_i, o2_ge_i, o2_is_n, o2_is_b, o2_isnot_n, o2_isnot_b, o2_eq_i, o2_eq_s, o2_eq_ns, o2_eq_b, o2_ne_b, o2_idx_t0, o2_idx_t1, o1_len_scr, o1_len_t, o1_len_l, o1_len_s, o1_not_b, o1_tuple_l, o1_list_t, o1_list_l, o1_rev_t, o1_neg_i, o1_int_b, isi_s, isi_i, isi_b, isi_n, isi_t, isi_l, isTy, isNone_n, isNone_b, isNone_i, isNone_s, isNone_t, isNone_l, isBool_b, Bool.not_true, Bool.not_false, eq_self, if_true, if_false, Bool.false_eq_true, reduceIte, beq_self_eq_true, f_is_house, ht, e]
    | true =>
      simp only [hp] at ht
      have hz : evalE (callF defs (n + 4)) c_is_house_0 [some (.tuple ts), none, none, none] = .ok (.list (ts.map fun d => .bool (nameTab d))) := by
        unfold c_is_house_0
        refine comp_any (by simp only [evalSs, evalS, evalE, evalEs, evalIT, Res.bind_ok, Res.bind_bad, Res.bind_exc, Res.tame_ok, Fl.go_next, Fl.go_ret, Fl.fin_next, Fl.fin_ret, slot_some, List.getElem?_cons_zero, List.getElem?_cons_succ, List.set_cons_zero, List.set_cons_succ, put_nm, put_tu, puts_nil, puts_cons, chainK_t, chainK_f, truth_bool, truth_none, truth_int, truth_list, truth_tuple, truth_str, o2_add_i, o2_sub_i, o2_lt_i, o2_le_i, o2_gt_i, o2_ge_i, o2_is_n, o2_is_b, o2_isnot_n, o2_isnot_b, o2_eq_i, o2_eq_s, o2_eq_ns, o2_eq_b, o2_ne_b, o2_idx_t0, o2_idx_t1, o1_len_scr, o1_len_t, o1_len_l, o1_len_s, o1_not_b, o1_tuple_l, o1_list_t, o1_list_l, o1_rev_t, o1_neg_i, o1_int_b, isi_s, isi_i, isi_b, isi_n, isi_t, isi_l, isTy, isNone_n, isNone_b, isNone_i, isNone_s, isNone_t, isNone_l, isBool_b, Bool.not_true, Bool.not_false, eq_self, if_true, if_false, Bool.false_eq_true, reduceIte, beq_self_eq_true, itemsOf]) fun d hd => ?_
        have hpd := List.all_eq_true.mp hp d hd
        have hfd := (fine_tuple.mp hf).2 d hd
        cases d with
        | tuple es =>
          rw [pair_len] at hpd
          obtain ⟨a, t, rfl⟩ := (len2 es).mp (of_decide_eq_true hpd)
          have fa := (fine_tuple.mp hfd).2 a (by simp)
          have ft := (fine_tuple.mp hfd).2 t (by simp)
          have i1 := is_name_eq (n + 3) a (fine_noDict a fa)
          have i2 := is_table_eq n t ft
          refine ⟨_, by simp only [evalSs, evalS, evalE, evalEs, evalIT, Res.bind_ok, Res.bind_bad, Res.bind_exc, Res.tame_ok, Fl.go_next, Fl.go_ret, Fl.fin_next, Fl.fin_ret, slot_some, List.getElem?_cons_zero, List.getElem?_cons_succ, List.set_cons_zero, List.set_cons_succ, put_nm, put_tu, puts_nil, puts_cons, chainK_t, chainK_f, truth_bool, truth_none, truth_int, truth_list, truth_tuple, truth_str, o2_add_i, o2_sub_i, o2_lt_i, o2_le_i, o2_gt_i, o2_ge_i, o2_is_n, o2_is_b, o2_isnot_n, o2_isnot_b, o2_eq_i, o2_eq_s, o2_eq_ns, o2_eq_b, o2_ne_b, o2_idx_t0, o2_idx_t1, o1_len_scr, o1_len_t, o1_len_l, o1_len_s, o1_not_b, o1_tuple_l, o1_list_t, o1_list_l, o1_rev_t, o1_neg_i, o1_int_b, isi_s, isi_i, isi_b, isi_n, isi_t, isi_l, isTy, isNone_n, isNone_b, isNone_i, isNone_s, isNone_t, isNone_l, isBool_b, Bool.not_true, Bool.not_false, eq_self, if_true, if_false, Bool.false_eq_true, reduceIte, beq_self_eq_true] <;> rfl, ?_⟩
          cases q : isName a with
          | false => rw [q] at i1; simp only [evalSs, evalS, evalE, evalEs, evalIT, Res.bind_ok, Res.bind_bad, Res.bind_exc, Res.tame_ok, Fl.go_next, Fl.go_ret, Fl.fin_next, Fl.fin_ret, slot_some, List.getElem?_cons_zero, List.getElem?_cons_succ, List.set_cons_zero, List.set_cons_succ, put_nm, put_tu, puts_nil, puts_cons, chainK_t, chainK_f, truth_bool, truth_none, truth_int, truth_list, truth_tuple, truth_str, o2_add_i, o2_sub_i, o2_lt_i, o2_le_i, o2_gt_i, o2_ge_i, o2_is_n, o2_is_b, o2_isnot_n, o2_isnot_b, o2_eq_i, o2_eq_s, o2_eq_ns, o2_eq_b, o2_ne_b, o2_idx_t0, o2_idx_t1, o1_len_scr, o1_len_t, o1_len_l, o1_len_s, o1_not_b, o1_tuple_l, o1_list_t, o1_list_l, o1_rev_t, o1_neg_i, o1_int_b, isi_s, isi_i, isi_b, isi_n, isi_t, isi_l, isTy, isNone_n, isNone_b, isNone_i, isNone_s, isNone_t, isNone_l, isBool_b, Bool.not_true, Bool.not_false, eq_self, if_true, if_false, Bool.false_eq_true, reduceIte, beq_self_eq_true, i1, nameTab, q, Bool.false_and]
          | true => rw [q] at i1; simp only [evalSs, evalS, evalE, evalEs, evalIT, Res.bind_ok, Res.bind_bad, Res.bind_exc, Res.tame_ok, Fl.go_next, Fl.go_ret, Fl.fin_next, Fl.fin_ret, slot_some, List.getElem?_cons_zero, List.getElem?_cons_succ, List.set_cons_zero, List.set_cons_succ, put_nm, put_tu, puts_nil, puts_cons, chainK_t, chainK_f, truth_bool, truth_none, truth_int, truth_list, truth_tuple, truth_str, o2_add_i, o2_sub_i, o2_lt_i, o2_le_i, o2_gt_i, o2_ge_i, o2_is_n, o2_is_b, o2_isnot_n, o2_isnot_b, o2_eq_i, o2_eq_s, o2_eq_ns, o2_eq_b, o2_ne_b, o2_idx_t0, o2_idx_t1, o1_len_scr, o1_len_t, o1_len_l, o1_len_s, o1_not_b, o1_tuple_l, o1_list_t, o1_list_l, o1_rev_t, o1_neg_i, o1_int_b, isi_s, isi_i, isi_b, isi_n, isi_t, isi_l, isTy, isNone_n, isNone_b, isNone_i, isNone_s, isNone_t, isNone_l, isBool_b, Bool.not_true, Bool.not_false, eq_self, if_true, if_false, Bool.false_eq_true, reduceIte, beq_self_eq_true, i1, i2, nameTab, q, Bool.true_and]
        | _ => cases hpd
      cases ha : ts.all nameTab with
      | false => simp only [evalSs, evalS, evalE, evalEs, evalIT, Res.bind_ok, Res.bind_bad, Res.bind_exc, Res.tame_ok, Fl.go_next, Fl.go_ret, Fl.fin_next, Fl.fin_ret, slot_some, List.getElem?_cons_zero, List.getElem?_cons_succ, List.set_cons_zero, List.set_cons_succ, put_nm, put_tu, puts_nil, puts_cons, chainK_t, chainK_f, truth_bool, truth_none, truth_int, truth_list, truth_tuple, truth_str, o2_add_i, o2_sub_i, o2_lt_i, o2_le_i, o2_gt_i, o2_ge_i, o2_is_n, o2_is_b, o2_isnot_n, o2_isnot_b, o2_eq_i, o2_eq_s, o2_eq_ns, o2_eq_b, o2_ne_b, o2_idx_t0, o2_idx_t1, o1_len_scr, o1_len_t, o1_len_l, o1_len_s, o1_not_b, o1_tuple_l, o1_list_t, o1_list_l, o1_rev_t, o1_neg_i, o1_int_b, isi_s, isi_i, isi_b, isi_n, isi_t, isi_l, isTy, isNone_n, isNone_b, isNone_i, isNone_s, isNone_t, isNone_l, isBool_b, Bool.not_true, Bool.not_false, eq_self, if_true, if_false, Bool.false_eq_true, reduceIte, beq_self_eq_true, f_is_house, ht, hz, o1_all, ha, isHouse, Bool.false_and]
      | true =>
        have hc := house_lt (callF defs (n + 4)) ts (by omega) ha
        simp only [isHouse, ha, Bool.true_and, rising]
        exact fin_of ((seq_if_f (d := .bool false) (by simp only [evalSs, evalS, evalE, evalEs, evalIT, Res.bind_ok, Res.bind_bad, Res.bind_exc, Res.tame_ok, Fl.go_next, Fl.go_ret, Fl.fin_next, Fl.fin_ret, slot_some, List.getElem?_cons_zero, List.getElem?_cons_succ, List.set_cons_zero, List.set_cons_succ, put_nm, put_tu, puts_nil, puts_cons, chainK_t, chainK_f, truth_bool, truth_none, truth_int, truth_list, truth_tuple, truth_str, o2_add_i, o2_sub_i, o2_lt_i, o2_le_i, o2_gt_i, o2_ge_i, o2_is_n, o2_is_b, o2_isnot_n, o2_isnot_b, o2_eq_i, o2_eq_s, o2_eq_ns, o2_eq_b, o2_ne_b, o2_idx_t0, o2_idx_t1, o1_len_scr, o1_len_t, o1_len_l, o1_len_s, o1_not_b, o1_tuple_l, o1_list_t, o1_list_l, o1_rev_t, o1_neg_i, o1_int_b, isi_s, isi_i, isi_b, isi_n, isi_t, isi_l, isTy, isNone_n, isNone_b, isNone_i, isNone_s, isNone_t, isNone_l, isBool_b, Bool.not_true, Bool.not_false, eq_self, if_true, if_false, Bool.false_eq_true, reduceIte, beq_self_eq_true, ht, hz, o1_all, ha]) rfl rfl).trans (seq_ret (by simp only [evalSs, evalS, evalE, evalEs, evalIT, Res.bind_ok, Res.bind_bad, Res.bind_exc, Res.tame_ok, Fl.go_next, Fl.go_ret, Fl.fin_next, Fl.fin_ret, slot_some, List.getElem?_cons_zero, List.getElem?_cons_succ, List.set_cons_zero, List.set_cons_succ, put_nm, put_tu, puts_nil, puts_cons, chainK_t, chainK_f, truth_bool, truth_none, truth_int, truth_list, truth_tuple, truth_str, o2_add_i, o2_sub_i, o2_lt_i, o2_le_i, o2_gt_i, o2_ge_i, o2_is_n, o2_is_b, o2_isnot_n, o2_isnot_b, o2_eq_i, o2_eq_s, o2_eq_ns, o2_eq_b, o2_ne_b, o2_idx_t0, o2_idx_t1, o1_len_scr, o1_len_t, o1_len_l, o1_len_s, o1_not_b, o1_tuple_l, o1_list_t, o1_list_l, o1_rev_t, o1_neg_i, o1_int_b, isi_s, isi_i, isi_b, isi_n, isi_t, isi_l, isTy, isNone_n, isNone_b, isNone_i, isNone_s, isNone_t, isNone_l, isBool_b, Bool.not_true, Bool.not_false, eq_self, if_true, if_false, Bool.false_eq_true, reduceIte, beq_self_eq_true, hc, o1_all])))
  | dict _ => simp [fine] at hf
  | _ => simp only [evalSs, evalS, evalE, evalEs, evalIT, Res.bind_ok, Res.bind_bad, Res.bind_exc, Res.tame_ok, Fl.go_next, Fl.go_ret, Fl.fin_next, Fl.fin_ret, slot_some, List.getElem?_cons_zero, List.getElem?_cons_succ, List.set_cons_zero, List.set_cons_succ, put_nm, put_tu, puts_nil, puts_cons, chainK_t, chainK_f, truth_bool, truth_none, truth_int, truth_list, truth_tuple, truth_str, o2_add_i, o2_sub_i, o2_lt_i, o2_le_i, o2_gt_i, o2_ge_i, o2_is_n, o2_is_b, o2_isnot_n, o2_isnot_b, o2_eq_i, o2_eq_s, o2_eq_ns, o2_eq_b, o2_ne_b, o2_idx_t0, o2_idx_t1, o1_len_scr, o1_len_t, o1_len_l, o1_len_s, o1_not_b, o1_tuple_l, o1_list_t, o1_list_l, o1_rev_t, o1_neg_i, o1_int_b, isi_s, isi_i, isi_b, isi_n, isi_t, isi_l, isTy, isNone_n, isNone_b, isNone_i, isNone_s, isNone_t, isNone_l, isBool_b, Bool.not_true, Bool.not_false, eq_self, if_true, if_false, Bool.false_eq_true, reduceIte, beq_self_eq_true, f_is_house, ht, isHouse]
/-! drawn rows, tables, houses are such, and fine -/
theorem vok_of {c : Col} {v : D} (h : VOk c v) : isOf c.2.1 c.2.2 v = true := by
  obtain ⟨x, s, m⟩ := c
  rcases h with h | ⟨h1, h2⟩
  · have h : Val s v := h
    show isOf s m v = true
    cases h <;> simp [isOf]
  · subst h2; exact h1
theorem vok_fine {c : Col} {v : D} (h : VOk c v) : fine 10 v = true := by
  rcases h with h | ⟨_, h2⟩
  · exact fine_val h
  · subst h2; rfl
theorem row_mem {cs : List Col} {vs : List D} (h : RowOk cs vs) : ∀ v ∈ vs, ∃ c ∈ cs, VOk c v := by
  induction h with
  | nil => intro v h; simp at h
  | cons h1 _ ih =>
    intro v hv
    rcases List.mem_cons.mp hv with rfl | hv
    · exact ⟨_, by simp, h1⟩
    · obtain ⟨c, hc, h⟩ := ih v hv
      exact ⟨c, List.mem_cons_of_mem _ hc, h⟩
theorem row_zip {cs : List Col} {vs : List D} (h : RowOk cs vs) : (zipD vs (cs.map colD)).all isPairOf = true := by
  induction h with
  | nil => rfl
  | cons h1 _ ih =>
    simp only [List.map_cons, zipD, List.all_cons, ih, Bool.and_true]
    exact vok_of h1
theorem rowok_is {cs : List Col} {vs : List D} (h : RowOk cs vs) : isRow (cs.map colD) (.tuple vs) = true := by
  simp only [isRow, row_zip h, h.len, List.length_map, Bool.and_true, decide_true]
theorem row_fine {cs : List Col} {vs : List D} (h : RowOk cs vs) (hl : cs.length ≤ 10) : fine 10 (.tuple vs) = true := by
  rw [fine_tuple]
  refine ⟨by rw [h.len]; exact hl, fun v hv => ?_⟩
  obtain ⟨c, _, q⟩ := row_mem h v hv
  exact vok_fine q
def at1 : D → D
  | .tuple (_ :: b :: _) => b
  | _ => .none
theorem pub_ret {ρ : Nat → List D → Res D} {ms : List Nat} {ss : ISs} {env : En} {x : D} (hx : evalSs ρ ss env = .ok (.ret x)) : evalSs ρ (.pub ms ss) env = .ok (.ret x) := by simp only [evalSs, hx, bind_ok, Fl.go_ret]
/-! dicts by text keys -/
def dropS : Nat → ISs → ISs
  | 0, s => s
  | n + 1, .cons _ s => dropS n s
  | _ + 1, s => s
theorem idx_dict {k : Str} {kvs : List (D × D)} {d : D} (h : lookD k kvs = some d) : op2 .idx (.dict kvs) (.str k) = .ok d := by
  have e : op2 .idx (.dict kvs) (.str k) = getD' kvs (.str k) := by
    match kvs, h with
    | (.str x, v) :: r, _ => rfl
  rw [e]
  show (match lookD k kvs with | some d => Res.ok d | none => .bad) = _
  rw [h]
theorem comp_two {ρ : Nat → List D → Res D} {t : Tg} {it : IT} {elt : IE} {env : En} {ps : List (D × D)} (hi : evalIT ρ it env = .ok (ps.map (·.1))) (h : ∀ p ∈ ps, ∃ e, t.put p.1 env = .ok e ∧ evalE ρ elt e = .ok p.2) : evalE ρ (.comp t it elt) env = .ok (.list (ps.map (·.2))) := by
  simp only [evalE, hi, bind_ok]
  have : ∀ l : List (D × D), (∀ p ∈ l, p ∈ ps) → eachD (fun d => (t.put d env).bind fun e => (evalE ρ elt e).bind fun x => .ok (some x)) (l.map (·.1)) = .ok (l.map (·.2)) := fun l => by
    induction l with
    | nil => intro _; rfl
    | cons p l ih =>
      intro hl
      obtain ⟨e, h1, h2⟩ := h p (hl p (by simp))
      simp only [List.map_cons, eachD, h1, h2, bind_ok, ih fun q hq => hl q (List.mem_cons_of_mem _ hq)]
  rw [this ps fun _ h => h]
  rfl
theorem putD_new {k : Str} {v : D} {kvs : List (D × D)} (h : lookD k kvs = none) : putD k v kvs = kvs ++ [(.str k, v)] := by
  unfold putD
  rw [h]; rfl
def encKV (es : List (Str × D)) : List (D × D) := es.map fun p => (PyData.str p.1, p.2)
theorem look_enc (k : Str) : ∀ es : List (Str × D), lookD k (encKV es) = (es.find? fun p => p.1 == k).map (·.2)
  | [] => rfl
  | (x, v) :: es => by
    show (if x = k then some v else lookD k (encKV es)) = _
    rw [List.find?_cons]
    by_cases e : x = k
    · have : (x == k) = true := by simp [e]
      simp only [if_pos e, this, Option.map_some]
    · have : (x == k) = false := beq_eq_false_iff_ne.mpr e
      simp only [if_neg e, this]
      exact look_enc k es
theorem merge_nodup : ∀ (es acc : List (Str × D)), ((acc ++ es).map (·.1)).Nodup → mergeD (encKV acc) es = encKV (acc ++ es)
  | [], acc, _ => by rw [List.append_nil]; rfl
  | (k, v) :: es, acc, h => by
    have hk : lookD k (encKV acc) = none := by
      rw [look_enc]
      have : acc.find? (fun p => p.1 == k) = none := by
        rw [List.find?_eq_none]
        intro p hp z
        rw [List.map_append, List.nodup_append] at h
        exact h.2.2 p.1 (List.mem_map.mpr ⟨p, hp, rfl⟩) k (by simp) (by simpa using z)
      rw [this]; rfl
    show mergeD (putD k v (encKV acc)) es = _
    rw [putD_new hk]
    have e : encKV acc ++ [(PyData.str k, v)] = encKV (acc ++ [(k, v)]) := by simp [encKV]
    rw [e, merge_nodup es (acc ++ [(k, v)]) (by simpa using h)]
    simp
theorem kvOf_pairs : ∀ es : List (Str × D), kvOf (es.map fun p => .tuple [.str p.1, p.2]) = some es
  | [] => rfl
  | (k, v) :: es => by
    show (kvOf (es.map fun p => PyData.tuple [.str p.1, p.2])).map ((k, v) :: ·) = _
    rw [kvOf_pairs es]; rfl
/-- dict(pairs), keys unlike -/
theorem dict_t (es : List (Str × D)) (h : (es.map (·.1)).Nodup) : op1 .dict (.tuple (es.map fun p => .tuple [.str p.1, p.2])) = .ok (.dict (encKV es)) := by
  show dictL _ = _
  unfold dictL
  rw [kvOf_pairs]
  have := merge_nodup es [] (by simpa using h)
  rw [List.nil_append] at this
  show Res.ok (PyData.dict (mergeD [] es)) = _
  rw [show ([] : List (D × D)) = encKV [] from rfl, this]
theorem dict_l (es : List (Str × D)) (h : (es.map (·.1)).Nodup) : op1 .dict (.list (es.map fun p => .tuple [.str p.1, p.2])) = .ok (.dict (encKV es)) := dict_t es h
theorem find_nodup {es : List (Str × D)} {k : Str} {v : D} (h : (es.map (·.1)).Nodup) (hm : (k, v) ∈ es) : lookD k (encKV es) = some v := by
  rw [look_enc]
  have : es.find? (fun p => p.1 == k) = some (k, v) := by
    induction es with
    | nil => simp at hm
    | cons p es ih =>
      obtain ⟨h1, h2⟩ := List.nodup_cons.mp h
      rw [List.find?_cons]
      rcases List.mem_cons.mp hm with e | hm
      · subst e; simp
      · have : (p.1 == k) = false := beq_eq_false_iff_ne.mpr fun z => h1 (List.mem_map.mpr ⟨_, hm, z.symm⟩)
        rw [this]
        exact ih h2 hm
  rw [this]; rfl
theorem dict_col {cols : List Col} (h : (cols.map (·.1)).Nodup) {c : Col} (hc : c ∈ cols) : op2 .idx (.dict (encKV (cols.map fun c => (c.1, kindD c.2.1 c.2.2)))) (.str c.1) = .ok (kindD c.2.1 c.2.2) :=
  idx_dict (find_nodup (by rw [List.map_map]; exact h) (List.mem_map.mpr ⟨c, hc, rfl⟩))
def nms (cols : List Col) : List Str := cols.map (·.1)
abbrev Hs := List (Str × List Col)
def headD (p : Str × List Col) : D := .tuple [.str p.1, .tuple (p.2.map colD)]
def headsD (hs : Hs) : D := .tuple (hs.map headD)
def lookC (cols : List Col) (x : Str) : Col := (cols.find? fun c => c.1 == x).getD (x, w_whole, false)
theorem lookC_in {cols : List Col} {x : Str} (h : x ∈ nms cols) : lookC cols x ∈ cols ∧ (lookC cols x).1 = x := by
  obtain ⟨c, hc, e⟩ := List.mem_map.mp h
  unfold lookC
  cases q : cols.find? fun c => c.1 == x with
  | none =>
    rw [List.find?_eq_none] at q
    exact absurd (by simp [e]) (q c hc)
  | some d =>
    have := List.find?_some q
    exact ⟨List.mem_of_find?_eq_some q, by simpa using this⟩
/-- name, word, column -/
abbrev Hpl := Str × Str × Option Str
def heapH (cols : List Col) (all : Bool) (h : Hpl) : Col := match h.2.2 with
  | none => (h.1, w_whole, false)
  | some x => (h.1, (lookC cols x).2.1, (lookC cols x).2.2 || all)
/-! the law's headings of drawn questions -/
section
variable {ρ : Nat → List D → Res D}
theorem comp_map {α : Type} {t : Tg} {it : IT} {elt : IE} {env : En} (l : List α) (f g : α → D) (hi : evalIT ρ it env = .ok (l.map f)) (h : ∀ a ∈ l, ∃ e, t.put (f a) env = .ok e ∧ evalE ρ elt e = .ok (g a)) : evalE ρ (.comp t it elt) env = .ok (.list (l.map g)) := by
  have := comp_two (ρ := ρ) (t := t) (it := it) (elt := elt) (env := env) (ps := l.map fun a => (f a, g a)) (by rw [hi, List.map_map]; rfl) (fun p hp => by
    obtain ⟨a, ha, rfl⟩ := List.mem_map.mp hp
    exact h a ha)
  rw [this, List.map_map]; rfl
theorem comp_map2 {α β : Type} {t : Tg} {it : IT} {elt : IE} {env : En} (l : List α) (f : α → D) (g1 : α → β) (g : β → D) (hi : evalIT ρ it env = .ok (l.map f)) (h : ∀ a ∈ l, ∃ e, t.put (f a) env = .ok e ∧ evalE ρ elt e = .ok (g (g1 a))) : evalE ρ (.comp t it elt) env = .ok (.list ((l.map g1).map g)) := by
  rw [List.map_map]
  exact comp_map l f _ hi h
theorem compIf_map {α : Type} {t : Tg} {it : IT} {c elt : IE} {env : En} (l : List α) (f g : α → D) (p : α → Bool) (hi : evalIT ρ it env = .ok (l.map f)) (h : ∀ a ∈ l, ∃ e, t.put (f a) env = .ok e ∧ evalE ρ c e = .ok (.bool (p a)) ∧ evalE ρ elt e = .ok (g a)) : evalE ρ (.compIf t it c elt) env = .ok (.list ((l.filter p).map g)) := by
  simp only [evalE, hi, bind_ok]
  have : eachD (fun d => (t.put d env).bind fun e => (evalE ρ c e).bind fun y => (truth y).bind fun b => if b then (evalE ρ elt e).bind fun x => .ok (some x) else .ok none) (l.map f) = .ok ((l.filter p).map g) := by
    clear hi
    induction l with
    | nil => rfl
    | cons a l ih =>
      obtain ⟨e, h1, h2, h3⟩ := h a (by simp)
      have ih := ih fun b hb => h b (List.mem_cons_of_mem _ hb)
      rw [List.map_cons, List.filter_cons]
      cases q : p a with
      | true =>
        simp only [if_true, List.map_cons]
        rw [q] at h2
        rw [eachD, ih]
        simp only [h1, h2, h3, bind_ok, truth_bool, if_true]
      | false =>
        simp only [Bool.false_eq_true, if_false]
        rw [q] at h2
        rw [eachD, ih]
        simp only [h1, h2, bind_ok, truth_bool, Bool.false_eq_true, if_false]
  rw [this]; rfl
theorem notin_wl (x : Str) (ws : List Str) : op2 .notin (.str x) (.list (ws.map PyData.str)) = .ok (.bool (!decide (x ∈ ws))) := notin_ws x ws
theorem idx2 (a b c : D) (l : List D) : op2 .idx (.tuple (a :: b :: c :: l)) (.int 2) = .ok c := o2_idx_t (atI_nat (j := 2) rfl)
theorem idx3 (a b c d : D) (l : List D) : op2 .idx (.tuple (a :: b :: c :: d :: l)) (.int 3) = .ok d := o2_idx_t (atI_nat (j := 3) rfl)
theorem dict_look {cols : List Col} (nd : (nms cols).Nodup) {x : Str} (h : x ∈ nms cols) : op2 .idx (.dict (encKV (cols.map fun c => (c.1, kindD c.2.1 c.2.2)))) (.str x) = .ok (kindD (lookC cols x).2.1 (lookC cols x).2.2) := by
  obtain ⟨h1, h2⟩ := lookC_in h
  have := dict_col nd h1
  rw [h2] at this
  exact this
theorem dict_heads {hs : Hs} (nd : (hs.map (·.1)).Nodup) : op1 .dict (headsD hs) = .ok (.dict (encKV (hs.map fun p => (p.1, .tuple (p.2.map colD))))) := by
  have := dict_t (hs.map fun p => (p.1, PyData.tuple (p.2.map colD))) (by rw [List.map_map]; exact nd)
  rw [List.map_map] at this
  exact this
theorem heads_at {hs : Hs} (nd : (hs.map (·.1)).Nodup) {t : Str} {cols : List Col} (h : (t, cols) ∈ hs) : op2 .idx (.dict (encKV (hs.map fun p => (p.1, .tuple (p.2.map colD))))) (.str t) = .ok (.tuple (cols.map colD)) :=
  idx_dict (find_nodup (by rw [List.map_map]; exact nd) (List.mem_map.mpr ⟨(t, cols), h, rfl⟩))
end
/-! headings of groups and of two -/
section
variable {ρ : Nat → List D → Res D}
theorem eq_empty (xs : List Str) : op2 .eq (.tuple (xs.map PyData.str)) (.tuple []) = .ok (.bool xs.isEmpty) := by
  have hd := (words_flat xs)
  rw [o2_eq (by unfold eqOk; simp [noDict, noDicts, hd.1, PyData.depth, PyData.depthAll, hd.2])]
  cases xs with
  | nil => rfl
  | cons x xs => simp [PyData.eqv, PyData.eqvAll]
theorem tup2 {a b : IE} {env : En} {x y : D} (ha : evalE ρ a env = .ok x) (hb : evalE ρ b env = .ok y) : evalE ρ (.tup (.cons a (.cons b .nil))) env = .ok (.tuple [x, y]) := by
  simp only [evalE, evalEs, ha, hb, bind_ok]
theorem app_of {i : Nat} {e : IE} {env : En} {d : D} {ds : List D} (he : evalE ρ e env = .ok d) (hi : env[i]? = some (some (.list ds))) (hl : ds.length ≤ 1000) : evalS ρ (.app i e) env = .ok (.next (env.set i (some (.list (ds ++ [d]))))) := by
  simp only [evalS, he, bind_ok, hi]
  exact app_eq _ _ _ _ hl
theorem heapH_count {cols : List Col} {b : Bool} {h : Hpl} (e : h.2.2 = none) : heapH cols b h = (h.1, w_whole, false) := by unfold heapH; rw [e]
theorem heapH_col {cols : List Col} {b : Bool} {h : Hpl} {x : Str} (e : h.2.2 = some x) : heapH cols b h = (h.1, (lookC cols x).2.1, (lookC cols x).2.2 || b) := by unfold heapH; rw [e]
end
/-! heads of houses; tables are plain -/
def hsOf (hs : List (Str × Tb)) : Hs := hs.map fun p => (p.1, p.2.cols)
def Flat (k : Nat) (d : D) : Prop := plainD d = true ∧ PyData.depth d ≤ k
theorem flat_tup {k : Nat} {ds : List D} (h : ∀ d ∈ ds, Flat k d) : Flat (k + 1) (.tuple ds) := by
  refine ⟨plain_tup fun d hd => (h d hd).1, ?_⟩
  have : PyData.depthAll ds ≤ k := by
    induction ds with
    | nil => simp [PyData.depthAll]
    | cons d ds ih =>
      have h1 := (h d (by simp)).2
      have h2 := ih fun x hx => h x (List.mem_cons_of_mem _ hx)
      rw [PyData.depthAll]
      omega
  rw [PyData.depth]
  omega
theorem flat_str (k : Nat) (x : Str) : Flat k (.str x) := ⟨by simp [plainD], by simp [PyData.depth]⟩
theorem flat_bool (k : Nat) (x : Bool) : Flat k (.bool x) := ⟨by simp [plainD], by simp [PyData.depth]⟩
theorem flat_int (k : Nat) (x : Int) : Flat k (.int x) := ⟨by simp [plainD], by simp [PyData.depth]⟩
theorem flat_none (k : Nat) : Flat k .none := ⟨by simp [plainD], by simp [PyData.depth]⟩
theorem flat_col (c : Col) : Flat 2 (colD c) := flat_tup fun d hd => by
  simp only [List.mem_cons, List.not_mem_nil, or_false] at hd
  rcases hd with rfl | rfl
  · exact flat_str _ _
  · refine flat_tup fun d hd => ?_
    simp only [List.mem_cons, List.not_mem_nil, or_false] at hd
    rcases hd with rfl | rfl
    · exact flat_str _ _
    · exact flat_bool _ _
theorem flat_val {c : Col} {v : D} (h : VOk c v) : Flat 0 v := by
  rcases h with h | ⟨_, rfl⟩
  · generalize c.2.1 = s at h
    cases h
    · exact flat_int _ _
    · exact flat_bool _ _
    · exact flat_str _ _
  · exact flat_none _
theorem flat_row {cols : List Col} {vs : List D} (h : RowOk cols vs) : Flat 1 (.tuple vs) := flat_tup fun d hd => by
  induction h with
  | nil => simp at hd
  | cons h1 _ ih =>
    rcases List.mem_cons.mp hd with rfl | hd
    · exact flat_val h1
    · exact ih hd
theorem flat_rows {cols : List Col} {rows : List (List D)} (h : ∀ r ∈ rows, RowOk cols r) : Flat 2 (.tuple (rows.map PyData.tuple)) := flat_tup fun d hd => by
  obtain ⟨r, hr, rfl⟩ := List.mem_map.mp hd
  exact flat_row (h r hr)
theorem flat_up {k m : Nat} {d : D} (h : Flat k d) (hm : k ≤ m) : Flat m d := ⟨h.1, Nat.le_trans h.2 hm⟩
theorem flat_cols (cols : List Col) : Flat 3 (.tuple (cols.map colD)) := flat_tup fun d hd => by
  obtain ⟨c, _, rfl⟩ := List.mem_map.mp hd
  exact flat_col c
theorem flat_tab {t : Tb} (h : ∀ r ∈ t.rows, RowOk t.cols r) : Flat 4 (tabD t) := flat_tup fun d hd => by
  simp only [List.mem_cons, List.not_mem_nil, or_false] at hd
  rcases hd with rfl | rfl
  · exact flat_cols _
  · exact flat_up (flat_rows h) (by omega)
theorem flat_ent {p : Str × Tb} (h : ∀ r ∈ p.2.rows, RowOk p.2.cols r) : Flat 5 (entD p) := flat_tup fun d hd => by
  simp only [List.mem_cons, List.not_mem_nil, or_false] at hd
  rcases hd with rfl | rfl
  · exact flat_str _ _
  · exact flat_tab h
theorem flat_house {hs : List (Str × Tb)} (h : ∀ p ∈ hs, ∀ r ∈ p.2.rows, RowOk p.2.cols r) : Flat 6 (houseD hs) := flat_tup fun d hd => by
  obtain ⟨p, hp, rfl⟩ := List.mem_map.mp hd
  exact flat_ent (h p hp)
theorem called_eq (n : Nat) (z x y : Str) : callF defs (n + 1) F.called [.str z, .str x, .str y] = .ok (.str (if z = x then y else z)) := by
  rw [u_called]
  by_cases e : z = x
  · have b : (z == x) = true := by simp [e]
    rw [if_pos e]
    exact fin_of (seq_if_t (d := .bool true) (by simp only [evalSs, evalS, evalE, evalEs, evalIT, Res.bind_ok, Res.bind_bad, Res.bind_exc, Res.tame_ok, Fl.go_next, Fl.go_ret, Fl.fin_next, Fl.fin_ret, slot_some, List.getElem?_cons_zero, List.getElem?_cons_succ, List.set_cons_zero, List.set_cons_succ, put_nm, put_tu, puts_nil, puts_cons, chainK_t, chainK_f, truth_bool, truth_none, truth_int, truth_list, truth_tuple, truth_str, o2_add_i, o2_sub_i, o2_lt_i, o2_le_i, o2_gt_i, o2_ge_i, o2_is_n, o2_is_b, o2_isnot_n, o2_isnot_b, o2_eq_i, o2_eq_s, o2_eq_ns, o2_eq_b, o2_ne_b, o2_idx_t0, o2_idx_t1, o1_len_scr, o1_len_t, o1_len_l, o1_len_s, o1_not_b, o1_tuple_l, o1_list_t, o1_list_l, o1_rev_t, o1_neg_i, o1_int_b, isi_s, isi_i, isi_b, isi_n, isi_t, isi_l, isTy, isNone_n, isNone_b, isNone_i, isNone_s, isNone_t, isNone_l, isBool_b, Bool.not_true, Bool.not_false, eq_self, if_true, if_false, Bool.false_eq_true, reduceIte, beq_self_eq_true, b]) rfl (seq_ret (by simp only [evalSs, evalS, evalE, evalEs, evalIT, Res.bind_ok, Res.bind_bad, Res.bind_exc, Res.tame_ok, Fl.go_next, Fl.go_ret, Fl.fin_next, Fl.fin_ret, slot_some, List.getElem?_cons_zero, List.getElem?_cons_succ, List.set_cons_zero, List.set_cons_succ, put_nm, put_tu, puts_nil, puts_cons, chainK_t, chainK_f, truth_bool, truth_none, truth_int, truth_list, truth_tuple, truth_str, o2_add_i, o2_sub_i, o2_lt_i, o2_le_i, o2_gt_i, o2_ge_i, o2_is_n, o2_is_b, o2_isnot_n, o2_isnot_b, o2_eq_i, o2_eq_s, o2_eq_ns, o2_eq_b, o2_ne_b, o2_idx_t0, o2_idx_t1, o1_len_scr, o1_len_t, o1_len_l, o1_len_s, o1_not_b, o1_tuple_l, o1_list_t, o1_list_l, o1_rev_t, o1_neg_i, o1_int_b, isi_s, isi_i, isi_b, isi_n, isi_t, isi_l, isTy, isNone_n, isNone_b, isNone_i, isNone_s, isNone_t, isNone_l, isBool_b, Bool.not_true, Bool.not_false, eq_self, if_true, if_false, Bool.false_eq_true, reduceIte, beq_self_eq_true])))
  · have b : (z == x) = false := beq_eq_false_iff_ne.mpr e
    rw [if_neg e]
    exact fin_of ((seq_if_f (d := .bool false) (by simp only [evalSs, evalS, evalE, evalEs, evalIT, Res.bind_ok, Res.bind_bad, Res.bind_exc, Res.tame_ok, Fl.go_next, Fl.go_ret, Fl.fin_next, Fl.fin_ret, slot_some, List.getElem?_cons_zero, List.getElem?_cons_succ, List.set_cons_zero, List.set_cons_succ, put_nm, put_tu, puts_nil, puts_cons, chainK_t, chainK_f, truth_bool, truth_none, truth_int, truth_list, truth_tuple, truth_str, o2_add_i, o2_sub_i, o2_lt_i, o2_le_i, o2_gt_i, o2_ge_i, o2_is_n, o2_is_b, o2_isnot_n, o2_isnot_b, o2_eq_i, o2_eq_s, o2_eq_ns, o2_eq_b, o2_ne_b, o2_idx_t0, o2_idx_t1, o1_len_scr, o1_len_t, o1_len_l, o1_len_s, o1_not_b, o1_tuple_l, o1_list_t, o1_list_l, o1_rev_t, o1_neg_i, o1_int_b, isi_s, isi_i, isi_b, isi_n, isi_t, isi_l, isTy, isNone_n, isNone_b, isNone_i, isNone_s, isNone_t, isNone_l, isBool_b, Bool.not_true, Bool.not_false, eq_self, if_true, if_false, Bool.false_eq_true, reduceIte, beq_self_eq_true, b]) rfl rfl).trans (seq_ret (by simp only [evalSs, evalS, evalE, evalEs, evalIT, Res.bind_ok, Res.bind_bad, Res.bind_exc, Res.tame_ok, Fl.go_next, Fl.go_ret, Fl.fin_next, Fl.fin_ret, slot_some, List.getElem?_cons_zero, List.getElem?_cons_succ, List.set_cons_zero, List.set_cons_succ, put_nm, put_tu, puts_nil, puts_cons, chainK_t, chainK_f, truth_bool, truth_none, truth_int, truth_list, truth_tuple, truth_str, o2_add_i, o2_sub_i, o2_lt_i, o2_le_i, o2_gt_i, o2_ge_i, o2_is_n, o2_is_b, o2_isnot_n, o2_isnot_b, o2_eq_i, o2_eq_s, o2_eq_ns, o2_eq_b, o2_ne_b, o2_idx_t0, o2_idx_t1, o1_len_scr, o1_len_t, o1_len_l, o1_len_s, o1_not_b, o1_tuple_l, o1_list_t, o1_list_l, o1_rev_t, o1_neg_i, o1_int_b, isi_s, isi_i, isi_b, isi_n, isi_t, isi_l, isTy, isNone_n, isNone_b, isNone_i, isNone_s, isNone_t, isNone_l, isBool_b, Bool.not_true, Bool.not_false, eq_self, if_true, if_false, Bool.false_eq_true, reduceIte, beq_self_eq_true])))
/-! tables that change -/
inductive Ch
  | moved (a b : Str)
  | called (a c d : Str)
  | wider (a c s : Str) (m : Bool) (v : D)
  | gappy (a c : Str)
def chD : Ch → D
  | .moved a b => .tuple [.str w_moved, .str a, .str b]
  | .called a c d => .tuple [.str w_called, .str a, .str c, .str d]
  | .wider a c s m v => .tuple [.str w_wider, .str a, .str c, kindD s m, v]
  | .gappy a c => .tuple [.str w_gappy, .str a, .str c]
def chAt : Ch → Str
  | .moved a _ => a
  | .called a _ _ => a
  | .wider a _ _ _ _ => a
  | .gappy a _ => a
def chC : Ch → List Col → List Col
  | .moved _ _, cols => cols
  | .called _ c d, cols => cols.map fun q => ((if q.1 = c then d else q.1), q.2)
  | .wider _ c s m _, cols => cols ++ [(c, s, m)]
  | .gappy _ c, cols => cols.map fun q => (q.1, q.2.1, q.2.2 || q.1 == c)
def chR : Ch → List (List D) → List (List D)
  | .wider _ _ _ _ v, rows => rows.map fun r => r ++ [v]
  | _, rows => rows
def chT (h : Ch) (t : Tb) : Tb := ⟨chC h t.cols, chR h t.rows⟩
def chN : Ch → Str → Str
  | .moved a b, x => if x = a then b else x
  | _, x => x
def chE (h : Ch) (p : Str × Tb) : Str × Tb := (chN h p.1, if p.1 = chAt h then chT h p.2 else p.2)
def chHs (h : Ch) (hs : List (Str × Tb)) : List (Str × Tb) := risB (hs.map (chE h))
def isMoved : Ch → Bool
  | .moved _ _ => true
  | _ => false
theorem ch_words : (w_called == w_moved) = false ∧ (w_wider == w_moved) = false ∧ (w_gappy == w_moved) = false ∧ (w_wider == w_called) = false ∧ (w_gappy == w_called) = false ∧ (w_gappy == w_wider) = false ∧ (w_moved == w_called) = false ∧ (w_moved == w_wider) = false ∧ (w_called == w_wider) = false := by decide +kernel
theorem idx_t2 (a b c : D) (l : List D) : op2 .idx (.tuple (a :: b :: c :: l)) (.int 2) = .ok c := o2_idx_t (atI_nat (j := 2) rfl)
theorem idx_t3 (a b c d : D) (l : List D) : op2 .idx (.tuple (a :: b :: c :: d :: l)) (.int 3) = .ok d := o2_idx_t (atI_nat (j := 3) rfl)
theorem idx_t4 (a b c d e : D) (l : List D) : op2 .idx (.tuple (a :: b :: c :: d :: e :: l)) (.int 4) = .ok e := o2_idx_t (atI_nat (j := 4) rfl)
theorem changed_heading_eq (n : Nat) (h : Ch) (hm : isMoved h = false) (cols : List Col) (hl : cols.length ≤ 1000) : callF defs (n + 2) F.changed_heading [.tuple (cols.map colD), chD h] = .ok (.tuple ((chC h cols).map colD)) := by
  rw [u_changed_heading]
  obtain ⟨k1, k2, k3, k4, k5, k6, k7, k8, k9⟩ := ch_words
  cases h with
  | moved a b => cases hm
  | called a c d =>
    have hc : evalE (callF defs (n + 1)) c_changed_heading_0 [some (.tuple (cols.map colD)), some (chD (.called a c d)), none, none] = .ok (.list ((chC (.called a c d) cols).map colD)) := by
      unfold c_changed_heading_0 chC
      refine comp_map2 cols colD _ _ (by simp only [evalSs, evalS, evalE, evalEs, evalIT, Res.bind_ok, Res.bind_bad, Res.bind_exc, Res.tame_ok, Fl.go_next, Fl.go_ret, Fl.fin_next, Fl.fin_ret, slot_some, List.getElem?_cons_zero, List.getElem?_cons_succ, List.set_cons_zero, List.set_cons_succ, put_nm, put_tu, puts_nil, puts_cons, chainK_t, chainK_f, truth_bool, truth_none, truth_int, truth_list, truth_tuple, truth_str, o2_add_i, o2_sub_i, o2_lt_i, o2_le_i, o2_gt_i, o2_ge_i, o2_is_n, o2_is_b, o2_isnot_n, o2_isnot_b, o2_eq_i, o2_eq_s, o2_eq_ns, o2_eq_b, o2_ne_b, o2_idx_t0, o2_idx_t1, o1_len_scr, o1_len_t, o1_len_l, o1_len_s, o1_not_b, o1_tuple_l, o1_list_t, o1_list_l, o1_rev_t, o1_neg_i, o1_int_b, isi_s, isi_i, isi_b, isi_n, isi_t, isi_l, isTy, isNone_n, isNone_b, isNone_i, isNone_s, isNone_t, isNone_l, isBool_b, Bool.not_true, Bool.not_false, eq_self, if_true, if_false, Bool.false_eq_true, reduceIte, beq_self_eq_true, itemsOf]) fun q _ => ⟨_, by simp only [evalSs, evalS, evalE, evalEs, evalIT, Res.bind_ok, Res.bind_bad, Res.bind_exc, Res.tame_ok, Fl.go_next, Fl.go_ret, Fl.fin_next, Fl.fin_ret, slot_some, List.getElem?_cons_zero, List.getElem?_cons_succ, List.set_cons_zero, List.set_cons_succ, put_nm, put_tu, puts_nil, puts_cons, chainK_t, chainK_f, truth_bool, truth_none, truth_int, truth_list, truth_tuple, truth_str, o2_add_i, o2_sub_i, o2_lt_i, o2_le_i, o2_gt_i, o2_ge_i, o2_is_n, o2_is_b, o2_isnot_n, o2_isnot_b, o2_eq_i, o2_eq_s, o2_eq_ns, o2_eq_b, o2_ne_b, o2_idx_t0, o2_idx_t1, o1_len_scr, o1_len_t, o1_len_l, o1_len_s, o1_not_b, o1_tuple_l, o1_list_t, o1_list_l, o1_rev_t, o1_neg_i, o1_int_b, isi_s, isi_i, isi_b, isi_n, isi_t, isi_l, isTy, isNone_n, isNone_b, isNone_i, isNone_s, isNone_t, isNone_l, isBool_b, Bool.not_true, Bool.not_false, eq_self, if_true, if_false, Bool.false_eq_true, reduceIte, beq_self_eq_true, colD] <;> rfl, ?_⟩
      have := called_eq n q.1 c d
      simp only [evalSs, evalS, evalE, evalEs, evalIT, Res.bind_ok, Res.bind_bad, Res.bind_exc, Res.tame_ok, Fl.go_next, Fl.go_ret, Fl.fin_next, Fl.fin_ret, slot_some, List.getElem?_cons_zero, List.getElem?_cons_succ, List.set_cons_zero, List.set_cons_succ, put_nm, put_tu, puts_nil, puts_cons, chainK_t, chainK_f, truth_bool, truth_none, truth_int, truth_list, truth_tuple, truth_str, o2_add_i, o2_sub_i, o2_lt_i, o2_le_i, o2_gt_i, o2_ge_i, o2_is_n, o2_is_b, o2_isnot_n, o2_isnot_b, o2_eq_i, o2_eq_s, o2_eq_ns, o2_eq_b, o2_ne_b, o2_idx_t0, o2_idx_t1, o1_len_scr, o1_len_t, o1_len_l, o1_len_s, o1_not_b, o1_tuple_l, o1_list_t, o1_list_l, o1_rev_t, o1_neg_i, o1_int_b, isi_s, isi_i, isi_b, isi_n, isi_t, isi_l, isTy, isNone_n, isNone_b, isNone_i, isNone_s, isNone_t, isNone_l, isBool_b, Bool.not_true, Bool.not_false, eq_self, if_true, if_false, Bool.false_eq_true, reduceIte, beq_self_eq_true, chD, idx_t2, idx_t3, this, colD]
    exact fin_of (seq_if_t (d := .bool true) (by simp only [chD]; simp only [evalSs, evalS, evalE, evalEs, evalIT, Res.bind_ok, Res.bind_bad, Res.bind_exc, Res.tame_ok, Fl.go_next, Fl.go_ret, Fl.fin_next, Fl.fin_ret, slot_some, List.getElem?_cons_zero, List.getElem?_cons_succ, List.set_cons_zero, List.set_cons_succ, put_nm, put_tu, puts_nil, puts_cons, chainK_t, chainK_f, truth_bool, truth_none, truth_int, truth_list, truth_tuple, truth_str, o2_add_i, o2_sub_i, o2_lt_i, o2_le_i, o2_gt_i, o2_ge_i, o2_is_n, o2_is_b, o2_isnot_n, o2_isnot_b, o2_eq_i, o2_eq_s, o2_eq_ns, o2_eq_b, o2_ne_b, o2_idx_t0, o2_idx_t1, o1_len_scr, o1_len_t, o1_len_l, o1_len_s, o1_not_b, o1_tuple_l, o1_list_t, o1_list_l, o1_rev_t, o1_neg_i, o1_int_b, isi_s, isi_i, isi_b, isi_n, isi_t, isi_l, isTy, isNone_n, isNone_b, isNone_i, isNone_s, isNone_t, isNone_l, isBool_b, Bool.not_true, Bool.not_false, eq_self, if_true, if_false, Bool.false_eq_true, reduceIte, beq_self_eq_true]) rfl (seq_ret (by simp only [evalSs, evalS, evalE, evalEs, evalIT, Res.bind_ok, Res.bind_bad, Res.bind_exc, Res.tame_ok, Fl.go_next, Fl.go_ret, Fl.fin_next, Fl.fin_ret, slot_some, List.getElem?_cons_zero, List.getElem?_cons_succ, List.set_cons_zero, List.set_cons_succ, put_nm, put_tu, puts_nil, puts_cons, chainK_t, chainK_f, truth_bool, truth_none, truth_int, truth_list, truth_tuple, truth_str, o2_add_i, o2_sub_i, o2_lt_i, o2_le_i, o2_gt_i, o2_ge_i, o2_is_n, o2_is_b, o2_isnot_n, o2_isnot_b, o2_eq_i, o2_eq_s, o2_eq_ns, o2_eq_b, o2_ne_b, o2_idx_t0, o2_idx_t1, o1_len_scr, o1_len_t, o1_len_l, o1_len_s, o1_not_b, o1_tuple_l, o1_list_t, o1_list_l, o1_rev_t, o1_neg_i, o1_int_b, isi_s, isi_i, isi_b, isi_n, isi_t, isi_l, isTy, isNone_n, isNone_b, isNone_i, isNone_s, isNone_t, isNone_l, isBool_b, Bool.not_true, Bool.not_false, eq_self, if_true, if_false, Bool.false_eq_true, reduceIte, beq_self_eq_true, hc])))
  | wider a c s m v =>
    have ad : op2 .add (.tuple (cols.map colD)) (.tuple [.tuple [.str c, kindD s m]]) = .ok (.tuple (cols.map colD ++ [.tuple [.str c, kindD s m]])) := o2_add_t (by rw [List.length_map]; simp; omega)
    refine fin_of ((seq_if_f (d := .bool false) (by simp only [chD]; simp only [evalSs, evalS, evalE, evalEs, evalIT, Res.bind_ok, Res.bind_bad, Res.bind_exc, Res.tame_ok, Fl.go_next, Fl.go_ret, Fl.fin_next, Fl.fin_ret, slot_some, List.getElem?_cons_zero, List.getElem?_cons_succ, List.set_cons_zero, List.set_cons_succ, put_nm, put_tu, puts_nil, puts_cons, chainK_t, chainK_f, truth_bool, truth_none, truth_int, truth_list, truth_tuple, truth_str, o2_add_i, o2_sub_i, o2_lt_i, o2_le_i, o2_gt_i, o2_ge_i, o2_is_n, o2_is_b, o2_isnot_n, o2_isnot_b, o2_eq_i, o2_eq_s, o2_eq_ns, o2_eq_b, o2_ne_b, o2_idx_t0, o2_idx_t1, o1_len_scr, o1_len_t, o1_len_l, o1_len_s, o1_not_b, o1_tuple_l, o1_list_t, o1_list_l, o1_rev_t, o1_neg_i, o1_int_b, isi_s, isi_i, isi_b, isi_n, isi_t, isi_l, isTy, isNone_n, isNone_b, isNone_i, isNone_s, isNone_t, isNone_l, isBool_b, Bool.not_true, Bool.not_false, eq_self, if_true, if_false, Bool.false_eq_true, reduceIte, beq_self_eq_true, k4]) rfl rfl).trans (seq_if_t (d := .bool true) (by simp only [chD]; simp only [evalSs, evalS, evalE, evalEs, evalIT, Res.bind_ok, Res.bind_bad, Res.bind_exc, Res.tame_ok, Fl.go_next, Fl.go_ret, Fl.fin_next, Fl.fin_ret, slot_some, List.getElem?_cons_zero, List.getElem?_cons_succ, List.set_cons_zero, List.set_cons_succ, put_nm, put_tu, puts_nil, puts_cons, chainK_t, chainK_f, truth_bool, truth_none, truth_int, truth_list, truth_tuple, truth_str, o2_add_i, o2_sub_i, o2_lt_i, o2_le_i, o2_gt_i, o2_ge_i, o2_is_n, o2_is_b, o2_isnot_n, o2_isnot_b, o2_eq_i, o2_eq_s, o2_eq_ns, o2_eq_b, o2_ne_b, o2_idx_t0, o2_idx_t1, o1_len_scr, o1_len_t, o1_len_l, o1_len_s, o1_not_b, o1_tuple_l, o1_list_t, o1_list_l, o1_rev_t, o1_neg_i, o1_int_b, isi_s, isi_i, isi_b, isi_n, isi_t, isi_l, isTy, isNone_n, isNone_b, isNone_i, isNone_s, isNone_t, isNone_l, isBool_b, Bool.not_true, Bool.not_false, eq_self, if_true, if_false, Bool.false_eq_true, reduceIte, beq_self_eq_true]) rfl (seq_ret ?_)))
    simp only [chD, chC, List.map_append]
    simp only [evalSs, evalS, evalE, evalEs, evalIT, Res.bind_ok, Res.bind_bad, Res.bind_exc, Res.tame_ok, Fl.go_next, Fl.go_ret, Fl.fin_next, Fl.fin_ret, slot_some, List.getElem?_cons_zero, List.getElem?_cons_succ, List.set_cons_zero, List.set_cons_succ, put_nm, put_tu, puts_nil, puts_cons, chainK_t, chainK_f, truth_bool, truth_none, truth_int, truth_list, truth_tuple, truth_str, o2_add_i, o2_sub_i, o2_lt_i, o2_le_i, o2_gt_i, o2_ge_i, o2_is_n, o2_is_b, o2_isnot_n, o2_isnot_b, o2_eq_i, o2_eq_s, o2_eq_ns, o2_eq_b, o2_ne_b, o2_idx_t0, o2_idx_t1, o1_len_scr, o1_len_t, o1_len_l, o1_len_s, o1_not_b, o1_tuple_l, o1_list_t, o1_list_l, o1_rev_t, o1_neg_i, o1_int_b, isi_s, isi_i, isi_b, isi_n, isi_t, isi_l, isTy, isNone_n, isNone_b, isNone_i, isNone_s, isNone_t, isNone_l, isBool_b, Bool.not_true, Bool.not_false, eq_self, if_true, if_false, Bool.false_eq_true, reduceIte, beq_self_eq_true, idx_t2, idx_t3, ad, List.map_cons, List.map_nil, colD]
  | gappy a c =>
    have hc : evalE (callF defs (n + 1)) c_changed_heading_1 [some (.tuple (cols.map colD)), some (chD (.gappy a c)), none, none] = .ok (.list ((chC (.gappy a c) cols).map colD)) := by
      unfold c_changed_heading_1 chC
      refine comp_map2 cols colD _ _ (by simp only [evalSs, evalS, evalE, evalEs, evalIT, Res.bind_ok, Res.bind_bad, Res.bind_exc, Res.tame_ok, Fl.go_next, Fl.go_ret, Fl.fin_next, Fl.fin_ret, slot_some, List.getElem?_cons_zero, List.getElem?_cons_succ, List.set_cons_zero, List.set_cons_succ, put_nm, put_tu, puts_nil, puts_cons, chainK_t, chainK_f, truth_bool, truth_none, truth_int, truth_list, truth_tuple, truth_str, o2_add_i, o2_sub_i, o2_lt_i, o2_le_i, o2_gt_i, o2_ge_i, o2_is_n, o2_is_b, o2_isnot_n, o2_isnot_b, o2_eq_i, o2_eq_s, o2_eq_ns, o2_eq_b, o2_ne_b, o2_idx_t0, o2_idx_t1, o1_len_scr, o1_len_t, o1_len_l, o1_len_s, o1_not_b, o1_tuple_l, o1_list_t, o1_list_l, o1_rev_t, o1_neg_i, o1_int_b, isi_s, isi_i, isi_b, isi_n, isi_t, isi_l, isTy, isNone_n, isNone_b, isNone_i, isNone_s, isNone_t, isNone_l, isBool_b, Bool.not_true, Bool.not_false, eq_self, if_true, if_false, Bool.false_eq_true, reduceIte, beq_self_eq_true, itemsOf]) fun q _ => ⟨_, by simp only [evalSs, evalS, evalE, evalEs, evalIT, Res.bind_ok, Res.bind_bad, Res.bind_exc, Res.tame_ok, Fl.go_next, Fl.go_ret, Fl.fin_next, Fl.fin_ret, slot_some, List.getElem?_cons_zero, List.getElem?_cons_succ, List.set_cons_zero, List.set_cons_succ, put_nm, put_tu, puts_nil, puts_cons, chainK_t, chainK_f, truth_bool, truth_none, truth_int, truth_list, truth_tuple, truth_str, o2_add_i, o2_sub_i, o2_lt_i, o2_le_i, o2_gt_i, o2_ge_i, o2_is_n, o2_is_b, o2_isnot_n, o2_isnot_b, o2_eq_i, o2_eq_s, o2_eq_ns, o2_eq_b, o2_ne_b, o2_idx_t0, o2_idx_t1, o1_len_scr, o1_len_t, o1_len_l, o1_len_s, o1_not_b, o1_tuple_l, o1_list_t, o1_list_l, o1_rev_t, o1_neg_i, o1_int_b, isi_s, isi_i, isi_b, isi_n, isi_t, isi_l, isTy, isNone_n, isNone_b, isNone_i, isNone_s, isNone_t, isNone_l, isBool_b, Bool.not_true, Bool.not_false, eq_self, if_true, if_false, Bool.false_eq_true, reduceIte, beq_self_eq_true, colD] <;> rfl, ?_⟩
      obtain ⟨x, s, m⟩ := q
      cases m <;> simp only [evalSs, evalS, evalE, evalEs, evalIT, Res.bind_ok, Res.bind_bad, Res.bind_exc, Res.tame_ok, Fl.go_next, Fl.go_ret, Fl.fin_next, Fl.fin_ret, slot_some, List.getElem?_cons_zero, List.getElem?_cons_succ, List.set_cons_zero, List.set_cons_succ, put_nm, put_tu, puts_nil, puts_cons, chainK_t, chainK_f, truth_bool, truth_none, truth_int, truth_list, truth_tuple, truth_str, o2_add_i, o2_sub_i, o2_lt_i, o2_le_i, o2_gt_i, o2_ge_i, o2_is_n, o2_is_b, o2_isnot_n, o2_isnot_b, o2_eq_i, o2_eq_s, o2_eq_ns, o2_eq_b, o2_ne_b, o2_idx_t0, o2_idx_t1, o1_len_scr, o1_len_t, o1_len_l, o1_len_s, o1_not_b, o1_tuple_l, o1_list_t, o1_list_l, o1_rev_t, o1_neg_i, o1_int_b, isi_s, isi_i, isi_b, isi_n, isi_t, isi_l, isTy, isNone_n, isNone_b, isNone_i, isNone_s, isNone_t, isNone_l, isBool_b, Bool.not_true, Bool.not_false, eq_self, if_true, if_false, Bool.false_eq_true, reduceIte, beq_self_eq_true, chD, idx_t2, colD, kindD, Bool.false_or, Bool.true_or]
    exact fin_of ((seq_if_f (d := .bool false) (by simp only [chD]; simp only [evalSs, evalS, evalE, evalEs, evalIT, Res.bind_ok, Res.bind_bad, Res.bind_exc, Res.tame_ok, Fl.go_next, Fl.go_ret, Fl.fin_next, Fl.fin_ret, slot_some, List.getElem?_cons_zero, List.getElem?_cons_succ, List.set_cons_zero, List.set_cons_succ, put_nm, put_tu, puts_nil, puts_cons, chainK_t, chainK_f, truth_bool, truth_none, truth_int, truth_list, truth_tuple, truth_str, o2_add_i, o2_sub_i, o2_lt_i, o2_le_i, o2_gt_i, o2_ge_i, o2_is_n, o2_is_b, o2_isnot_n, o2_isnot_b, o2_eq_i, o2_eq_s, o2_eq_ns, o2_eq_b, o2_ne_b, o2_idx_t0, o2_idx_t1, o1_len_scr, o1_len_t, o1_len_l, o1_len_s, o1_not_b, o1_tuple_l, o1_list_t, o1_list_l, o1_rev_t, o1_neg_i, o1_int_b, isi_s, isi_i, isi_b, isi_n, isi_t, isi_l, isTy, isNone_n, isNone_b, isNone_i, isNone_s, isNone_t, isNone_l, isBool_b, Bool.not_true, Bool.not_false, eq_self, if_true, if_false, Bool.false_eq_true, reduceIte, beq_self_eq_true, k5]) rfl rfl).trans ((seq_if_f (d := .bool false) (by simp only [chD]; simp only [evalSs, evalS, evalE, evalEs, evalIT, Res.bind_ok, Res.bind_bad, Res.bind_exc, Res.tame_ok, Fl.go_next, Fl.go_ret, Fl.fin_next, Fl.fin_ret, slot_some, List.getElem?_cons_zero, List.getElem?_cons_succ, List.set_cons_zero, List.set_cons_succ, put_nm, put_tu, puts_nil, puts_cons, chainK_t, chainK_f, truth_bool, truth_none, truth_int, truth_list, truth_tuple, truth_str, o2_add_i, o2_sub_i, o2_lt_i, o2_le_i, o2_gt_i, o2_ge_i, o2_is_n, o2_is_b, o2_isnot_n, o2_isnot_b, o2_eq_i, o2_eq_s, o2_eq_ns, o2_eq_b, o2_ne_b, o2_idx_t0, o2_idx_t1, o1_len_scr, o1_len_t, o1_len_l, o1_len_s, o1_not_b, o1_tuple_l, o1_list_t, o1_list_l, o1_rev_t, o1_neg_i, o1_int_b, isi_s, isi_i, isi_b, isi_n, isi_t, isi_l, isTy, isNone_n, isNone_b, isNone_i, isNone_s, isNone_t, isNone_l, isBool_b, Bool.not_true, Bool.not_false, eq_self, if_true, if_false, Bool.false_eq_true, reduceIte, beq_self_eq_true, k6]) rfl rfl).trans (seq_ret (by simp only [evalSs, evalS, evalE, evalEs, evalIT, Res.bind_ok, Res.bind_bad, Res.bind_exc, Res.tame_ok, Fl.go_next, Fl.go_ret, Fl.fin_next, Fl.fin_ret, slot_some, List.getElem?_cons_zero, List.getElem?_cons_succ, List.set_cons_zero, List.set_cons_succ, put_nm, put_tu, puts_nil, puts_cons, chainK_t, chainK_f, truth_bool, truth_none, truth_int, truth_list, truth_tuple, truth_str, o2_add_i, o2_sub_i, o2_lt_i, o2_le_i, o2_gt_i, o2_ge_i, o2_is_n, o2_is_b, o2_isnot_n, o2_isnot_b, o2_eq_i, o2_eq_s, o2_eq_ns, o2_eq_b, o2_ne_b, o2_idx_t0, o2_idx_t1, o1_len_scr, o1_len_t, o1_len_l, o1_len_s, o1_not_b, o1_tuple_l, o1_list_t, o1_list_l, o1_rev_t, o1_neg_i, o1_int_b, isi_s, isi_i, isi_b, isi_n, isi_t, isi_l, isTy, isNone_n, isNone_b, isNone_i, isNone_s, isNone_t, isNone_l, isBool_b, Bool.not_true, Bool.not_false, eq_self, if_true, if_false, Bool.false_eq_true, reduceIte, beq_self_eq_true, hc]))))
theorem changed_rows_eq (n : Nat) (h : Ch) (hm : isMoved h = false) (rows : List (List D)) (hr : ∀ r ∈ rows, r.length ≤ 1000) : callF defs (n + 1) F.changed_rows [.tuple (rows.map PyData.tuple), chD h] = .ok (.tuple ((chR h rows).map PyData.tuple)) := by
  rw [u_changed_rows]
  obtain ⟨k1, k2, k3, k4, k5, k6, k7, k8, k9⟩ := ch_words
  cases h with
  | moved a b => cases hm
  | called a c d => exact fin_of ((seq_if_f (d := .bool false) (by simp only [chD]; simp only [evalSs, evalS, evalE, evalEs, evalIT, Res.bind_ok, Res.bind_bad, Res.bind_exc, Res.tame_ok, Fl.go_next, Fl.go_ret, Fl.fin_next, Fl.fin_ret, slot_some, List.getElem?_cons_zero, List.getElem?_cons_succ, List.set_cons_zero, List.set_cons_succ, put_nm, put_tu, puts_nil, puts_cons, chainK_t, chainK_f, truth_bool, truth_none, truth_int, truth_list, truth_tuple, truth_str, o2_add_i, o2_sub_i, o2_lt_i, o2_le_i, o2_gt_i, o2_ge_i, o2_is_n, o2_is_b, o2_isnot_n, o2_isnot_b, o2_eq_i, o2_eq_s, o2_eq_ns, o2_eq_b, o2_ne_b, o2_idx_t0, o2_idx_t1, o1_len_scr, o1_len_t, o1_len_l, o1_len_s, o1_not_b, o1_tuple_l, o1_list_t, o1_list_l, o1_rev_t, o1_neg_i, o1_int_b, isi_s, isi_i, isi_b, isi_n, isi_t, isi_l, isTy, isNone_n, isNone_b, isNone_i, isNone_s, isNone_t, isNone_l, isBool_b, Bool.not_true, Bool.not_false, eq_self, if_true, if_false, Bool.false_eq_true, reduceIte, beq_self_eq_true, k9]) rfl rfl).trans (seq_ret (by simp only [evalSs, evalS, evalE, evalEs, evalIT, Res.bind_ok, Res.bind_bad, Res.bind_exc, Res.tame_ok, Fl.go_next, Fl.go_ret, Fl.fin_next, Fl.fin_ret, slot_some, List.getElem?_cons_zero, List.getElem?_cons_succ, List.set_cons_zero, List.set_cons_succ, put_nm, put_tu, puts_nil, puts_cons, chainK_t, chainK_f, truth_bool, truth_none, truth_int, truth_list, truth_tuple, truth_str, o2_add_i, o2_sub_i, o2_lt_i, o2_le_i, o2_gt_i, o2_ge_i, o2_is_n, o2_is_b, o2_isnot_n, o2_isnot_b, o2_eq_i, o2_eq_s, o2_eq_ns, o2_eq_b, o2_ne_b, o2_idx_t0, o2_idx_t1, o1_len_scr, o1_len_t, o1_len_l, o1_len_s, o1_not_b, o1_tuple_l, o1_list_t, o1_list_l, o1_rev_t, o1_neg_i, o1_int_b, isi_s, isi_i, isi_b, isi_n, isi_t, isi_l, isTy, isNone_n, isNone_b, isNone_i, isNone_s, isNone_t, isNone_l, isBool_b, Bool.not_true, Bool.not_false, eq_self, if_true, if_false, Bool.false_eq_true, reduceIte, beq_self_eq_true, chR])))
  | gappy a c => exact fin_of ((seq_if_f (d := .bool false) (by simp only [chD]; simp only [evalSs, evalS, evalE, evalEs, evalIT, Res.bind_ok, Res.bind_bad, Res.bind_exc, Res.tame_ok, Fl.go_next, Fl.go_ret, Fl.fin_next, Fl.fin_ret, slot_some, List.getElem?_cons_zero, List.getElem?_cons_succ, List.set_cons_zero, List.set_cons_succ, put_nm, put_tu, puts_nil, puts_cons, chainK_t, chainK_f, truth_bool, truth_none, truth_int, truth_list, truth_tuple, truth_str, o2_add_i, o2_sub_i, o2_lt_i, o2_le_i, o2_gt_i, o2_ge_i, o2_is_n, o2_is_b, o2_isnot_n, o2_isnot_b, o2_eq_i, o2_eq_s, o2_eq_ns, o2_eq_b, o2_ne_b, o2_idx_t0, o2_idx_t1, o1_len_scr, o1_len_t, o1_len_l, o1_len_s, o1_not_b, o1_tuple_l, o1_list_t, o1_list_l, o1_rev_t, o1_neg_i, o1_int_b, isi_s, isi_i, isi_b, isi_n, isi_t, isi_l, isTy, isNone_n, isNone_b, isNone_i, isNone_s, isNone_t, isNone_l, isBool_b, Bool.not_true, Bool.not_false, eq_self, if_true, if_false, Bool.false_eq_true, reduceIte, beq_self_eq_true, k6]) rfl rfl).trans (seq_ret (by simp only [evalSs, evalS, evalE, evalEs, evalIT, Res.bind_ok, Res.bind_bad, Res.bind_exc, Res.tame_ok, Fl.go_next, Fl.go_ret, Fl.fin_next, Fl.fin_ret, slot_some, List.getElem?_cons_zero, List.getElem?_cons_succ, List.set_cons_zero, List.set_cons_succ, put_nm, put_tu, puts_nil, puts_cons, chainK_t, chainK_f, truth_bool, truth_none, truth_int, truth_list, truth_tuple, truth_str, o2_add_i, o2_sub_i, o2_lt_i, o2_le_i, o2_gt_i, o2_ge_i, o2_is_n, o2_is_b, o2_isnot_n, o2_isnot_b, o2_eq_i, o2_eq_s, o2_eq_ns, o2_eq_b, o2_ne_b, o2_idx_t0, o2_idx_t1, o1_len_scr, o1_len_t, o1_len_l, o1_len_s, o1_not_b, o1_tuple_l, o1_list_t, o1_list_l, o1_rev_t, o1_neg_i, o1_int_b, isi_s, isi_i, isi_b, isi_n, isi_t, isi_l, isTy, isNone_n, isNone_b, isNone_i, isNone_s, isNone_t, isNone_l, isBool_b, Bool.not_true, Bool.not_false, eq_self, if_true, if_false, Bool.false_eq_true, reduceIte, beq_self_eq_true, chR])))
  | wider a c s m v =>
    have hc : evalE (callF defs n) c_changed_rows_0 [some (.tuple (rows.map PyData.tuple)), some (chD (.wider a c s m v)), none] = .ok (.list ((chR (.wider a c s m v) rows).map PyData.tuple)) := by
      unfold c_changed_rows_0 chR
      refine comp_map2 rows PyData.tuple _ _ (by simp only [evalSs, evalS, evalE, evalEs, evalIT, Res.bind_ok, Res.bind_bad, Res.bind_exc, Res.tame_ok, Fl.go_next, Fl.go_ret, Fl.fin_next, Fl.fin_ret, slot_some, List.getElem?_cons_zero, List.getElem?_cons_succ, List.set_cons_zero, List.set_cons_succ, put_nm, put_tu, puts_nil, puts_cons, chainK_t, chainK_f, truth_bool, truth_none, truth_int, truth_list, truth_tuple, truth_str, o2_add_i, o2_sub_i, o2_lt_i, o2_le_i, o2_gt_i, o2_ge_i, o2_is_n, o2_is_b, o2_isnot_n, o2_isnot_b, o2_eq_i, o2_eq_s, o2_eq_ns, o2_eq_b, o2_ne_b, o2_idx_t0, o2_idx_t1, o1_len_scr, o1_len_t, o1_len_l, o1_len_s, o1_not_b, o1_tuple_l, o1_list_t, o1_list_l, o1_rev_t, o1_neg_i, o1_int_b, isi_s, isi_i, isi_b, isi_n, isi_t, isi_l, isTy, isNone_n, isNone_b, isNone_i, isNone_s, isNone_t, isNone_l, isBool_b, Bool.not_true, Bool.not_false, eq_self, if_true, if_false, Bool.false_eq_true, reduceIte, beq_self_eq_true, itemsOf]) fun r hm => ⟨_, by simp only [evalSs, evalS, evalE, evalEs, evalIT, Res.bind_ok, Res.bind_bad, Res.bind_exc, Res.tame_ok, Fl.go_next, Fl.go_ret, Fl.fin_next, Fl.fin_ret, slot_some, List.getElem?_cons_zero, List.getElem?_cons_succ, List.set_cons_zero, List.set_cons_succ, put_nm, put_tu, puts_nil, puts_cons, chainK_t, chainK_f, truth_bool, truth_none, truth_int, truth_list, truth_tuple, truth_str, o2_add_i, o2_sub_i, o2_lt_i, o2_le_i, o2_gt_i, o2_ge_i, o2_is_n, o2_is_b, o2_isnot_n, o2_isnot_b, o2_eq_i, o2_eq_s, o2_eq_ns, o2_eq_b, o2_ne_b, o2_idx_t0, o2_idx_t1, o1_len_scr, o1_len_t, o1_len_l, o1_len_s, o1_not_b, o1_tuple_l, o1_list_t, o1_list_l, o1_rev_t, o1_neg_i, o1_int_b, isi_s, isi_i, isi_b, isi_n, isi_t, isi_l, isTy, isNone_n, isNone_b, isNone_i, isNone_s, isNone_t, isNone_l, isBool_b, Bool.not_true, Bool.not_false, eq_self, if_true, if_false, Bool.false_eq_true, reduceIte, beq_self_eq_true] <;> rfl, ?_⟩
      have ad : op2 .add (.tuple r) (.tuple [v]) = .ok (.tuple (r ++ [v])) := o2_add_t (by have := hr r hm; simp; omega)
      simp only [evalSs, evalS, evalE, evalEs, evalIT, Res.bind_ok, Res.bind_bad, Res.bind_exc, Res.tame_ok, Fl.go_next, Fl.go_ret, Fl.fin_next, Fl.fin_ret, slot_some, List.getElem?_cons_zero, List.getElem?_cons_succ, List.set_cons_zero, List.set_cons_succ, put_nm, put_tu, puts_nil, puts_cons, chainK_t, chainK_f, truth_bool, truth_none, truth_int, truth_list, truth_tuple, truth_str, o2_add_i, o2_sub_i, o2_lt_i, o2_le_i, o2_gt_i, o2_ge_i, o2_is_n, o2_is_b, o2_isnot_n, o2_isnot_b, o2_eq_i, o2_eq_s, o2_eq_ns, o2_eq_b, o2_ne_b, o2_idx_t0, o2_idx_t1, o1_len_scr, o1_len_t, o1_len_l, o1_len_s, o1_not_b, o1_tuple_l, o1_list_t, o1_list_l, o1_rev_t, o1_neg_i, o1_int_b, isi_s, isi_i, isi_b, isi_n, isi_t, isi_l, isTy, isNone_n, isNone_b, isNone_i, isNone_s, isNone_t, isNone_l, isBool_b, Bool.not_true, Bool.not_false, eq_self, if_true, if_false, Bool.false_eq_true, reduceIte, beq_self_eq_true, chD, idx_t4, ad]
    exact fin_of (seq_if_t (d := .bool true) (by simp only [chD]; simp only [evalSs, evalS, evalE, evalEs, evalIT, Res.bind_ok, Res.bind_bad, Res.bind_exc, Res.tame_ok, Fl.go_next, Fl.go_ret, Fl.fin_next, Fl.fin_ret, slot_some, List.getElem?_cons_zero, List.getElem?_cons_succ, List.set_cons_zero, List.set_cons_succ, put_nm, put_tu, puts_nil, puts_cons, chainK_t, chainK_f, truth_bool, truth_none, truth_int, truth_list, truth_tuple, truth_str, o2_add_i, o2_sub_i, o2_lt_i, o2_le_i, o2_gt_i, o2_ge_i, o2_is_n, o2_is_b, o2_isnot_n, o2_isnot_b, o2_eq_i, o2_eq_s, o2_eq_ns, o2_eq_b, o2_ne_b, o2_idx_t0, o2_idx_t1, o1_len_scr, o1_len_t, o1_len_l, o1_len_s, o1_not_b, o1_tuple_l, o1_list_t, o1_list_l, o1_rev_t, o1_neg_i, o1_int_b, isi_s, isi_i, isi_b, isi_n, isi_t, isi_l, isTy, isNone_n, isNone_b, isNone_i, isNone_s, isNone_t, isNone_l, isBool_b, Bool.not_true, Bool.not_false, eq_self, if_true, if_false, Bool.false_eq_true, reduceIte, beq_self_eq_true]) rfl (seq_ret (by simp only [evalSs, evalS, evalE, evalEs, evalIT, Res.bind_ok, Res.bind_bad, Res.bind_exc, Res.tame_ok, Fl.go_next, Fl.go_ret, Fl.fin_next, Fl.fin_ret, slot_some, List.getElem?_cons_zero, List.getElem?_cons_succ, List.set_cons_zero, List.set_cons_succ, put_nm, put_tu, puts_nil, puts_cons, chainK_t, chainK_f, truth_bool, truth_none, truth_int, truth_list, truth_tuple, truth_str, o2_add_i, o2_sub_i, o2_lt_i, o2_le_i, o2_gt_i, o2_ge_i, o2_is_n, o2_is_b, o2_isnot_n, o2_isnot_b, o2_eq_i, o2_eq_s, o2_eq_ns, o2_eq_b, o2_ne_b, o2_idx_t0, o2_idx_t1, o1_len_scr, o1_len_t, o1_len_l, o1_len_s, o1_not_b, o1_tuple_l, o1_list_t, o1_list_l, o1_rev_t, o1_neg_i, o1_int_b, isi_s, isi_i, isi_b, isi_n, isi_t, isi_l, isTy, isNone_n, isNone_b, isNone_i, isNone_s, isNone_t, isNone_l, isBool_b, Bool.not_true, Bool.not_false, eq_self, if_true, if_false, Bool.false_eq_true, reduceIte, beq_self_eq_true, hc])))
/-- a loop that puts one thing behind a list at each turn -/
theorem forD_acc {α β : Type} {f : D → En → Res Fl} (P : List β → En → Prop) (g : α → D) (k : α → β) : ∀ (l : List α) (acc : List β) (env : En), (∀ a ∈ l, ∀ acc' env, acc'.length < acc.length + l.length → P acc' env → ∃ e, f (g a) env = .ok (.next e) ∧ P (acc' ++ [k a]) e) → P acc env → ∃ e, forD f (l.map g) env = .ok (.next e) ∧ P (acc ++ l.map k) e
  | [], acc, env, _, p => ⟨env, rfl, by simpa using p⟩
  | a :: l, acc, env, h, p => by
    obtain ⟨e, e1, p1⟩ := h a (by simp) acc env (by simp) p
    obtain ⟨e', e2, p2⟩ := forD_acc P g k l (acc ++ [k a]) e (fun a' ha acc' env' hl p' => h a' (List.mem_cons_of_mem _ ha) acc' env' (by simp at hl ⊢; omega) p') p1
    exact ⟨e', by simp only [List.map_cons, forD, e1, bind_ok, Fl.go_next, e2], by simpa using p2⟩
theorem chD_at (h : Ch) : op2 .idx (chD h) (.int 1) = .ok (.str (chAt h)) := by cases h <;> exact o2_idx_t1 _ _ _
def chWord : Ch → Str
  | .moved _ _ => w_moved
  | .called _ _ _ => w_called
  | .wider _ _ _ _ _ => w_wider
  | .gappy _ _ => w_gappy
theorem chD_word (h : Ch) : op2 .idx (chD h) (.int 0) = .ok (.str (chWord h)) := by cases h <;> exact o2_idx_t0 _ _
theorem chWord_moved (h : Ch) : (chWord h == w_moved) = isMoved h := by
  obtain ⟨k1, k2, k3, k4, k5, k6, k7, k8, k9⟩ := ch_words
  cases h
  · exact beq_self_eq_true w_moved
  · exact k1
  · exact k2
  · exact k3
theorem chE_else {h : Ch} (hm : isMoved h = false) (p : Str × Tb) : chE h p = (p.1, if p.1 = chAt h then chT h p.2 else p.2) := by
  cases h with
  | moved a b => cases hm
  | _ => rfl
theorem chE_moved (a b : Str) (p : Str × Tb) : chE (.moved a b) p = ((if p.1 = a then b else p.1), p.2) := by
  obtain ⟨x, t⟩ := p
  show ((if x = a then b else x), (if x = a then (⟨t.cols, t.rows⟩ : Tb) else t)) = _
  split <;> rfl
structure TabFew (t : Tb) : Prop where
  c : t.cols.length ≤ 1000
  r : ∀ r ∈ t.rows, r.length ≤ 1000
theorem changed_else (n : Nat) (h : Ch) (hm : isMoved h = false) (hs : List (Str × Tb)) (hl : hs.length ≤ 60) (ht : ∀ p ∈ hs, TabFew p.2) : callF defs (n + 3) F.changed [houseD hs, chD h] = .ok (houseD (hs.map (chE h))) := by
  rw [u_changed]
  have w := chWord_moved h
  rw [hm] at w
  obtain ⟨e, l, o4, o5, rfl⟩ := forD_acc (f := fun d env => ((Tg.tu (.cons (.nm 4) (.cons (.nm 5) .nil))).put d env).bind fun e' => evalSs (callF defs (n + 2)) b_changed_2 e')
    (fun acc env => ∃ o4 o5, env = [some (houseD hs), some (chD h), some (.list (acc.map entD)), none, o4, o5]) entD (chE h) hs [] [some (houseD hs), some (chD h), some (.list []), none, none, none] (fun p hp acc env hacc he => by
      obtain ⟨o4, o5, rfl⟩ := he
      have hacc : acc.length < hs.length := by simpa using hacc
      have fin : ∀ t : Tb, evalSs (callF defs (n + 2)) (.cons (.app 2 (.tup (.cons (.var 4) (.cons (.var 5) .nil)))) .nil) [some (houseD hs), some (chD h), some (.list (acc.map entD)), none, some (.str p.1), some (tabD t)] = .ok (.next [some (houseD hs), some (chD h), some (.list ((acc ++ [(p.1, t)]).map entD)), none, some (.str p.1), some (tabD t)]) := fun t => by
        refine seq_next (app_of (d := entD (p.1, t)) (ds := acc.map entD) (by simp only [evalSs, evalS, evalE, evalEs, evalIT, Res.bind_ok, Res.bind_bad, Res.bind_exc, Res.tame_ok, Fl.go_next, Fl.go_ret, Fl.fin_next, Fl.fin_ret, slot_some, List.getElem?_cons_zero, List.getElem?_cons_succ, List.set_cons_zero, List.set_cons_succ, put_nm, put_tu, puts_nil, puts_cons, chainK_t, chainK_f, truth_bool, truth_none, truth_int, truth_list, truth_tuple, truth_str, o2_add_i, o2_sub_i, o2_lt_i, o2_le_i, o2_gt_i, o2_ge_i, o2_is_n, o2_is_b, o2_isnot_n, o2_isnot_b, o2_eq_i, o2_eq_s, o2_eq_ns, o2_eq_b, o2_ne_b, o2_idx_t0, o2_idx_t1, o1_len_scr, o1_len_t, o1_len_l, o1_len_s, o1_not_b, o1_tuple_l, o1_list_t, o1_list_l, o1_rev_t, o1_neg_i, o1_int_b, isi_s, isi_i, isi_b, isi_n, isi_t, isi_l, isTy, isNone_n, isNone_b, isNone_i, isNone_s, isNone_t, isNone_l, isBool_b, Bool.not_true, Bool.not_false, eq_self, if_true, if_false, Bool.false_eq_true, reduceIte, beq_self_eq_true, entD]) rfl (by rw [List.length_map]; omega)) ?_
        rw [List.map_append]; rfl
      rw [chE_else hm]
      by_cases q : p.1 = chAt h
      · have q' : (p.1 == chAt h) = true := by rw [beq_iff_eq]; exact q
        rw [if_pos q]
        have h1 := changed_heading_eq n h hm p.2.cols (ht p hp).c
        have h2 := changed_rows_eq (n + 1) h hm p.2.rows (ht p hp).r
        refine ⟨_, ?_, some (.str p.1), some (tabD (chT h p.2)), rfl⟩
        have e1 : ((Tg.tu (.cons (.nm 4) (.cons (.nm 5) .nil))).put (entD p) [some (houseD hs), some (chD h), some (.list (acc.map entD)), none, o4, o5]) = .ok [some (houseD hs), some (chD h), some (.list (acc.map entD)), none, some (.str p.1), some (tabD p.2)] := by simp only [evalSs, evalS, evalE, evalEs, evalIT, Res.bind_ok, Res.bind_bad, Res.bind_exc, Res.tame_ok, Fl.go_next, Fl.go_ret, Fl.fin_next, Fl.fin_ret, slot_some, List.getElem?_cons_zero, List.getElem?_cons_succ, List.set_cons_zero, List.set_cons_succ, put_nm, put_tu, puts_nil, puts_cons, chainK_t, chainK_f, truth_bool, truth_none, truth_int, truth_list, truth_tuple, truth_str, o2_add_i, o2_sub_i, o2_lt_i, o2_le_i, o2_gt_i, o2_ge_i, o2_is_n, o2_is_b, o2_isnot_n, o2_isnot_b, o2_eq_i, o2_eq_s, o2_eq_ns, o2_eq_b, o2_ne_b, o2_idx_t0, o2_idx_t1, o1_len_scr, o1_len_t, o1_len_l, o1_len_s, o1_not_b, o1_tuple_l, o1_list_t, o1_list_l, o1_rev_t, o1_neg_i, o1_int_b, isi_s, isi_i, isi_b, isi_n, isi_t, isi_l, isTy, isNone_n, isNone_b, isNone_i, isNone_s, isNone_t, isNone_l, isBool_b, Bool.not_true, Bool.not_false, eq_self, if_true, if_false, Bool.false_eq_true, reduceIte, beq_self_eq_true, entD]
        rw [e1]
        simp only [bind_ok]
        unfold b_changed_2
        refine (seq_if_n (d := .bool true) (by simp only [evalSs, evalS, evalE, evalEs, evalIT, Res.bind_ok, Res.bind_bad, Res.bind_exc, Res.tame_ok, Fl.go_next, Fl.go_ret, Fl.fin_next, Fl.fin_ret, slot_some, List.getElem?_cons_zero, List.getElem?_cons_succ, List.set_cons_zero, List.set_cons_succ, put_nm, put_tu, puts_nil, puts_cons, chainK_t, chainK_f, truth_bool, truth_none, truth_int, truth_list, truth_tuple, truth_str, o2_add_i, o2_sub_i, o2_lt_i, o2_le_i, o2_gt_i, o2_ge_i, o2_is_n, o2_is_b, o2_isnot_n, o2_isnot_b, o2_eq_i, o2_eq_s, o2_eq_ns, o2_eq_b, o2_ne_b, o2_idx_t0, o2_idx_t1, o1_len_scr, o1_len_t, o1_len_l, o1_len_s, o1_not_b, o1_tuple_l, o1_list_t, o1_list_l, o1_rev_t, o1_neg_i, o1_int_b, isi_s, isi_i, isi_b, isi_n, isi_t, isi_l, isTy, isNone_n, isNone_b, isNone_i, isNone_s, isNone_t, isNone_l, isBool_b, Bool.not_true, Bool.not_false, eq_self, if_true, if_false, Bool.false_eq_true, reduceIte, beq_self_eq_true, chD_at, q']) rfl ((seq_asg (d := tabD (chT h p.2)) (by simp only [evalSs, evalS, evalE, evalEs, evalIT, Res.bind_ok, Res.bind_bad, Res.bind_exc, Res.tame_ok, Fl.go_next, Fl.go_ret, Fl.fin_next, Fl.fin_ret, slot_some, List.getElem?_cons_zero, List.getElem?_cons_succ, List.set_cons_zero, List.set_cons_succ, put_nm, put_tu, puts_nil, puts_cons, chainK_t, chainK_f, truth_bool, truth_none, truth_int, truth_list, truth_tuple, truth_str, o2_add_i, o2_sub_i, o2_lt_i, o2_le_i, o2_gt_i, o2_ge_i, o2_is_n, o2_is_b, o2_isnot_n, o2_isnot_b, o2_eq_i, o2_eq_s, o2_eq_ns, o2_eq_b, o2_ne_b, o2_idx_t0, o2_idx_t1, o1_len_scr, o1_len_t, o1_len_l, o1_len_s, o1_not_b, o1_tuple_l, o1_list_t, o1_list_l, o1_rev_t, o1_neg_i, o1_int_b, isi_s, isi_i, isi_b, isi_n, isi_t, isi_l, isTy, isNone_n, isNone_b, isNone_i, isNone_s, isNone_t, isNone_l, isBool_b, Bool.not_true, Bool.not_false, eq_self, if_true, if_false, Bool.false_eq_true, reduceIte, beq_self_eq_true, tabD, h1, h2, chT])).trans rfl)).trans ?_
        exact fin _
      · have q' : (p.1 == chAt h) = false := beq_eq_false_iff_ne.mpr q
        rw [if_neg q]
        refine ⟨_, ?_, some (.str p.1), some (tabD p.2), rfl⟩
        have e1 : ((Tg.tu (.cons (.nm 4) (.cons (.nm 5) .nil))).put (entD p) [some (houseD hs), some (chD h), some (.list (acc.map entD)), none, o4, o5]) = .ok [some (houseD hs), some (chD h), some (.list (acc.map entD)), none, some (.str p.1), some (tabD p.2)] := by simp only [evalSs, evalS, evalE, evalEs, evalIT, Res.bind_ok, Res.bind_bad, Res.bind_exc, Res.tame_ok, Fl.go_next, Fl.go_ret, Fl.fin_next, Fl.fin_ret, slot_some, List.getElem?_cons_zero, List.getElem?_cons_succ, List.set_cons_zero, List.set_cons_succ, put_nm, put_tu, puts_nil, puts_cons, chainK_t, chainK_f, truth_bool, truth_none, truth_int, truth_list, truth_tuple, truth_str, o2_add_i, o2_sub_i, o2_lt_i, o2_le_i, o2_gt_i, o2_ge_i, o2_is_n, o2_is_b, o2_isnot_n, o2_isnot_b, o2_eq_i, o2_eq_s, o2_eq_ns, o2_eq_b, o2_ne_b, o2_idx_t0, o2_idx_t1, o1_len_scr, o1_len_t, o1_len_l, o1_len_s, o1_not_b, o1_tuple_l, o1_list_t, o1_list_l, o1_rev_t, o1_neg_i, o1_int_b, isi_s, isi_i, isi_b, isi_n, isi_t, isi_l, isTy, isNone_n, isNone_b, isNone_i, isNone_s, isNone_t, isNone_l, isBool_b, Bool.not_true, Bool.not_false, eq_self, if_true, if_false, Bool.false_eq_true, reduceIte, beq_self_eq_true, entD]
        rw [e1]
        simp only [bind_ok]
        unfold b_changed_2
        exact (seq_if_f (d := .bool false) (by simp only [evalSs, evalS, evalE, evalEs, evalIT, Res.bind_ok, Res.bind_bad, Res.bind_exc, Res.tame_ok, Fl.go_next, Fl.go_ret, Fl.fin_next, Fl.fin_ret, slot_some, List.getElem?_cons_zero, List.getElem?_cons_succ, List.set_cons_zero, List.set_cons_succ, put_nm, put_tu, puts_nil, puts_cons, chainK_t, chainK_f, truth_bool, truth_none, truth_int, truth_list, truth_tuple, truth_str, o2_add_i, o2_sub_i, o2_lt_i, o2_le_i, o2_gt_i, o2_ge_i, o2_is_n, o2_is_b, o2_isnot_n, o2_isnot_b, o2_eq_i, o2_eq_s, o2_eq_ns, o2_eq_b, o2_ne_b, o2_idx_t0, o2_idx_t1, o1_len_scr, o1_len_t, o1_len_l, o1_len_s, o1_not_b, o1_tuple_l, o1_list_t, o1_list_l, o1_rev_t, o1_neg_i, o1_int_b, isi_s, isi_i, isi_b, isi_n, isi_t, isi_l, isTy, isNone_n, isNone_b, isNone_i, isNone_s, isNone_t, isNone_l, isBool_b, Bool.not_true, Bool.not_false, eq_self, if_true, if_false, Bool.false_eq_true, reduceIte, beq_self_eq_true, chD_at, q']) rfl rfl).trans (fin _)) ⟨none, none, rfl⟩
  refine fin_of ((seq_if_f (d := .bool false) (by simp only [evalSs, evalS, evalE, evalEs, evalIT, Res.bind_ok, Res.bind_bad, Res.bind_exc, Res.tame_ok, Fl.go_next, Fl.go_ret, Fl.fin_next, Fl.fin_ret, slot_some, List.getElem?_cons_zero, List.getElem?_cons_succ, List.set_cons_zero, List.set_cons_succ, put_nm, put_tu, puts_nil, puts_cons, chainK_t, chainK_f, truth_bool, truth_none, truth_int, truth_list, truth_tuple, truth_str, o2_add_i, o2_sub_i, o2_lt_i, o2_le_i, o2_gt_i, o2_ge_i, o2_is_n, o2_is_b, o2_isnot_n, o2_isnot_b, o2_eq_i, o2_eq_s, o2_eq_ns, o2_eq_b, o2_ne_b, o2_idx_t0, o2_idx_t1, o1_len_scr, o1_len_t, o1_len_l, o1_len_s, o1_not_b, o1_tuple_l, o1_list_t, o1_list_l, o1_rev_t, o1_neg_i, o1_int_b, isi_s, isi_i, isi_b, isi_n, isi_t, isi_l, isTy, isNone_n, isNone_b, isNone_i, isNone_s, isNone_t, isNone_l, isBool_b, Bool.not_true, Bool.not_false, eq_self, if_true, if_false, Bool.false_eq_true, reduceIte, beq_self_eq_true, chD_word, w]) rfl rfl).trans (seq_next (e := [some (houseD hs), some (chD h), some (.list []), none, none, none]) rfl ((seq_for (by simp only [evalSs, evalS, evalE, evalEs, evalIT, Res.bind_ok, Res.bind_bad, Res.bind_exc, Res.tame_ok, Fl.go_next, Fl.go_ret, Fl.fin_next, Fl.fin_ret, slot_some, List.getElem?_cons_zero, List.getElem?_cons_succ, List.set_cons_zero, List.set_cons_succ, put_nm, put_tu, puts_nil, puts_cons, chainK_t, chainK_f, truth_bool, truth_none, truth_int, truth_list, truth_tuple, truth_str, o2_add_i, o2_sub_i, o2_lt_i, o2_le_i, o2_gt_i, o2_ge_i, o2_is_n, o2_is_b, o2_isnot_n, o2_isnot_b, o2_eq_i, o2_eq_s, o2_eq_ns, o2_eq_b, o2_ne_b, o2_idx_t0, o2_idx_t1, o1_len_scr, o1_len_t, o1_len_l, o1_len_s, o1_not_b, o1_tuple_l, o1_list_t, o1_list_l, o1_rev_t, o1_neg_i, o1_int_b, isi_s, isi_i, isi_b, isi_n, isi_t, isi_l, isTy, isNone_n, isNone_b, isNone_i, isNone_s, isNone_t, isNone_l, isBool_b, Bool.not_true, Bool.not_false, eq_self, if_true, if_false, Bool.false_eq_true, reduceIte, beq_self_eq_true, houseD, itemsOf] <;> rfl) l).trans (seq_ret (by simp only [evalSs, evalS, evalE, evalEs, evalIT, Res.bind_ok, Res.bind_bad, Res.bind_exc, Res.tame_ok, Fl.go_next, Fl.go_ret, Fl.fin_next, Fl.fin_ret, slot_some, List.getElem?_cons_zero, List.getElem?_cons_succ, List.set_cons_zero, List.set_cons_succ, put_nm, put_tu, puts_nil, puts_cons, chainK_t, chainK_f, truth_bool, truth_none, truth_int, truth_list, truth_tuple, truth_str, o2_add_i, o2_sub_i, o2_lt_i, o2_le_i, o2_gt_i, o2_ge_i, o2_is_n, o2_is_b, o2_isnot_n, o2_isnot_b, o2_eq_i, o2_eq_s, o2_eq_ns, o2_eq_b, o2_ne_b, o2_idx_t0, o2_idx_t1, o1_len_scr, o1_len_t, o1_len_l, o1_len_s, o1_not_b, o1_tuple_l, o1_list_t, o1_list_l, o1_rev_t, o1_neg_i, o1_int_b, isi_s, isi_i, isi_b, isi_n, isi_t, isi_l, isTy, isNone_n, isNone_b, isNone_i, isNone_s, isNone_t, isNone_l, isBool_b, Bool.not_true, Bool.not_false, eq_self, if_true, if_false, Bool.false_eq_true, reduceIte, beq_self_eq_true, houseD, List.nil_append])))))
/-! in order -/
theorem ins_names {β : Type} (e : Str × β) : ∀ l : List (Str × β), insT e.1 (l.map (·.1)) = (insB e l).map (·.1)
  | [] => rfl
  | f :: r => by
    rw [List.map_cons, insT, insB]
    split
    · rfl
    · rw [List.map_cons, ins_names e r]
theorem ris_names {β : Type} : ∀ l : List (Str × β), risT (l.map (·.1)) = (risB l).map (·.1)
  | [] => rfl
  | e :: r => by rw [List.map_cons, risT, ris_names r, ins_names, risB]
theorem ris_id {β : Type} : ∀ l : List (Str × β), l.Pairwise (fun a b => leT a.1 b.1 = true) → risB l = l
  | [], _ => rfl
  | e :: r, h => by
    obtain ⟨h1, h2⟩ := List.pairwise_cons.mp h
    rw [risB, ris_id r h2]
    cases r with
    | nil => rfl
    | cons f r => rw [insB, if_pos (h1 f (by simp))]
theorem ins_snd {β γ : Type} (f : β → γ) (e : Str × β) : ∀ l : List (Str × β), insB (e.1, f e.2) (l.map fun x => (x.1, f x.2)) = (insB e l).map fun x => (x.1, f x.2)
  | [] => rfl
  | g :: r => by
    rw [List.map_cons, insB, insB]
    split
    · rfl
    · rw [List.map_cons, ins_snd f e r]
theorem ris_snd {β γ : Type} (f : β → γ) : ∀ l : List (Str × β), risB (l.map fun x => (x.1, f x.2)) = (risB l).map fun x => (x.1, f x.2)
  | [] => rfl
  | e :: r => by rw [List.map_cons, risB, ris_snd f r, ins_snd, risB]
theorem sorted_strs (xs : List Str) (h : xs.length < 64) : op1 .sorted (.list (xs.map PyData.str)) = .ok (.list ((risT xs).map PyData.str)) := by
  show (match strsD (xs.map PyData.str) with | some xs => sortTexts xs | none => _) = _
  rw [strs_str]
  show (if decide (xs.length < 64) = true then _ else _) = _
  rw [if_pos (decide_eq_true h)]
theorem sorted_dict (es : List (Str × D)) (h : es.length < 64) : op1 .sorted (.dict (encKV es)) = .ok (.list ((risT (es.map (·.1))).map PyData.str)) := by
  show (match strsD ((encKV es).map (·.1)) with | some xs => sortTexts xs | none => .bad) = _
  have e : (encKV es).map (·.1) = (es.map (·.1)).map PyData.str := by
    unfold encKV
    rw [List.map_map, List.map_map]; rfl
  rw [e, strs_str]
  show (if decide ((es.map (·.1)).length < 64) = true then _ else _) = _
  rw [if_pos (decide_eq_true (by rw [List.length_map]; exact h))]
theorem sorted_pairs (es : List (Str × D)) (h : es.length < 64) (nd : (es.map (·.1)).Nodup) (ht : ∀ e ∈ es, isTup e.2 = true) : op1 .sorted (.list (es.map npD)) = .ok (.list ((risB es).map npD)) := by
  cases es with
  | nil => rfl
  | cons e r =>
    have hk : kvOf ((e :: r).map npD) = some (e :: r) := kvOf_pairs (e :: r)
    show sortPairs ((e :: r).map npD) = _
    unfold sortPairs
    rw [hk]
    show (if (decide ((e :: r).length ≤ 1000 ∧ ((e :: r).map (·.1)).Nodup) && (e :: r).all (fun e => isTup e.2)) = true then Res.ok (PyData.list ((risB (e :: r)).map npD)) else .bad) = _
    rw [if_pos]
    rw [Bool.and_eq_true]
    exact ⟨decide_eq_true ⟨by omega, nd⟩, List.all_eq_true.mpr ht⟩
theorem ent_pairs (hs : List (Str × Tb)) : hs.map entD = (hs.map fun p => (p.1, tabD p.2)).map fun p => PyData.tuple [.str p.1, p.2] := by
  rw [List.map_map]; rfl
theorem dict_house (hs : List (Str × Tb)) (h : (hs.map (·.1)).Nodup) : op1 .dict (.list (hs.map entD)) = .ok (.dict (encKV (hs.map fun p => (p.1, tabD p.2)))) := by
  rw [ent_pairs]
  exact dict_l _ (by rw [List.map_map]; exact h)
theorem dict_ent {hs : List (Str × Tb)} (h : (hs.map (·.1)).Nodup) {p : Str × Tb} (hp : p ∈ hs) : op2 .idx (.dict (encKV (hs.map fun p => (p.1, tabD p.2)))) (.str p.1) = .ok (tabD p.2) :=
  idx_dict (find_nodup (by rw [List.map_map]; exact h) (List.mem_map.mpr ⟨p, hp, rfl⟩))
theorem changed_moved (n : Nat) (a b : Str) (hs : List (Str × Tb)) (hl : hs.length ≤ 60) (nd : ((hs.map (chE (.moved a b))).map (·.1)).Nodup) : callF defs (n + 2) F.changed [houseD hs, chD (.moved a b)] = .ok (houseD (chHs (.moved a b) hs)) := by
  rw [u_changed]
  have c0 : evalE (callF defs (n + 1)) c_changed_0 [some (houseD hs), some (chD (.moved a b)), none, none, none, none] = .ok (.list ((hs.map (chE (.moved a b))).map entD)) := by
    unfold c_changed_0
    refine comp_map2 hs entD _ _ (by simp only [evalSs, evalS, evalE, evalEs, evalIT, Res.bind_ok, Res.bind_bad, Res.bind_exc, Res.tame_ok, Fl.go_next, Fl.go_ret, Fl.fin_next, Fl.fin_ret, slot_some, List.getElem?_cons_zero, List.getElem?_cons_succ, List.set_cons_zero, List.set_cons_succ, put_nm, put_tu, puts_nil, puts_cons, chainK_t, chainK_f, truth_bool, truth_none, truth_int, truth_list, truth_tuple, truth_str, o2_add_i, o2_sub_i, o2_lt_i, o2_le_i, o2_gt_i, o2_ge_i, o2_is_n, o2_is_b, o2_isnot_n, o2_isnot_b, o2_eq_i, o2_eq_s, o2_eq_ns, o2_eq_b, o2_ne_b, o2_idx_t0, o2_idx_t1, o1_len_scr, o1_len_t, o1_len_l, o1_len_s, o1_not_b, o1_tuple_l, o1_list_t, o1_list_l, o1_rev_t, o1_neg_i, o1_int_b, isi_s, isi_i, isi_b, isi_n, isi_t, isi_l, isTy, isNone_n, isNone_b, isNone_i, isNone_s, isNone_t, isNone_l, isBool_b, Bool.not_true, Bool.not_false, eq_self, if_true, if_false, Bool.false_eq_true, reduceIte, beq_self_eq_true, houseD, itemsOf]) fun p _ => ⟨_, by simp only [evalSs, evalS, evalE, evalEs, evalIT, Res.bind_ok, Res.bind_bad, Res.bind_exc, Res.tame_ok, Fl.go_next, Fl.go_ret, Fl.fin_next, Fl.fin_ret, slot_some, List.getElem?_cons_zero, List.getElem?_cons_succ, List.set_cons_zero, List.set_cons_succ, put_nm, put_tu, puts_nil, puts_cons, chainK_t, chainK_f, truth_bool, truth_none, truth_int, truth_list, truth_tuple, truth_str, o2_add_i, o2_sub_i, o2_lt_i, o2_le_i, o2_gt_i, o2_ge_i, o2_is_n, o2_is_b, o2_isnot_n, o2_isnot_b, o2_eq_i, o2_eq_s, o2_eq_ns, o2_eq_b, o2_ne_b, o2_idx_t0, o2_idx_t1, o1_len_scr, o1_len_t, o1_len_l, o1_len_s, o1_not_b, o1_tuple_l, o1_list_t, o1_list_l, o1_rev_t, o1_neg_i, o1_int_b, isi_s, isi_i, isi_b, isi_n, isi_t, isi_l, isTy, isNone_n, isNone_b, isNone_i, isNone_s, isNone_t, isNone_l, isBool_b, Bool.not_true, Bool.not_false, eq_self, if_true, if_false, Bool.false_eq_true, reduceIte, beq_self_eq_true, entD] <;> rfl, ?_⟩
    have := called_eq n p.1 a b
    rw [chE_moved]
    simp only [evalSs, evalS, evalE, evalEs, evalIT, Res.bind_ok, Res.bind_bad, Res.bind_exc, Res.tame_ok, Fl.go_next, Fl.go_ret, Fl.fin_next, Fl.fin_ret, slot_some, List.getElem?_cons_zero, List.getElem?_cons_succ, List.set_cons_zero, List.set_cons_succ, put_nm, put_tu, puts_nil, puts_cons, chainK_t, chainK_f, truth_bool, truth_none, truth_int, truth_list, truth_tuple, truth_str, o2_add_i, o2_sub_i, o2_lt_i, o2_le_i, o2_gt_i, o2_ge_i, o2_is_n, o2_is_b, o2_isnot_n, o2_isnot_b, o2_eq_i, o2_eq_s, o2_eq_ns, o2_eq_b, o2_ne_b, o2_idx_t0, o2_idx_t1, o1_len_scr, o1_len_t, o1_len_l, o1_len_s, o1_not_b, o1_tuple_l, o1_list_t, o1_list_l, o1_rev_t, o1_neg_i, o1_int_b, isi_s, isi_i, isi_b, isi_n, isi_t, isi_l, isTy, isNone_n, isNone_b, isNone_i, isNone_s, isNone_t, isNone_l, isBool_b, Bool.not_true, Bool.not_false, eq_self, if_true, if_false, Bool.false_eq_true, reduceIte, beq_self_eq_true, chD, idx_t2, this, entD]
  have hd := dict_house _ nd
  have sd := sorted_dict ((hs.map (chE (.moved a b))).map fun p => (p.1, tabD p.2)) (by rw [List.length_map, List.length_map]; omega)
  have en : ((hs.map (chE (.moved a b))).map fun p => (p.1, tabD p.2)).map (·.1) = (hs.map (chE (.moved a b))).map (·.1) := by rw [List.map_map]; rfl
  have em : ((risB (hs.map (chE (.moved a b)))).map (·.1)).map PyData.str = (chHs (.moved a b) hs).map fun p => PyData.str p.1 := by rw [List.map_map]; rfl
  rw [en, ris_names, em] at sd
  have c1 : evalE (callF defs (n + 1)) c_changed_1 [some (houseD hs), some (chD (.moved a b)), none, some (.dict (encKV ((hs.map (chE (.moved a b))).map fun p => (p.1, tabD p.2)))), none, none] = .ok (.list ((chHs (.moved a b) hs).map entD)) := by
    unfold c_changed_1
    refine comp_map (chHs (.moved a b) hs) (fun p => .str p.1) entD (by simp only [evalSs, evalS, evalE, evalEs, evalIT, Res.bind_ok, Res.bind_bad, Res.bind_exc, Res.tame_ok, Fl.go_next, Fl.go_ret, Fl.fin_next, Fl.fin_ret, slot_some, List.getElem?_cons_zero, List.getElem?_cons_succ, List.set_cons_zero, List.set_cons_succ, put_nm, put_tu, puts_nil, puts_cons, chainK_t, chainK_f, truth_bool, truth_none, truth_int, truth_list, truth_tuple, truth_str, o2_add_i, o2_sub_i, o2_lt_i, o2_le_i, o2_gt_i, o2_ge_i, o2_is_n, o2_is_b, o2_isnot_n, o2_isnot_b, o2_eq_i, o2_eq_s, o2_eq_ns, o2_eq_b, o2_ne_b, o2_idx_t0, o2_idx_t1, o1_len_scr, o1_len_t, o1_len_l, o1_len_s, o1_not_b, o1_tuple_l, o1_list_t, o1_list_l, o1_rev_t, o1_neg_i, o1_int_b, isi_s, isi_i, isi_b, isi_n, isi_t, isi_l, isTy, isNone_n, isNone_b, isNone_i, isNone_s, isNone_t, isNone_l, isBool_b, Bool.not_true, Bool.not_false, eq_self, if_true, if_false, Bool.false_eq_true, reduceIte, beq_self_eq_true, sd, itemsOf]) fun p hp => ⟨_, by simp only [evalSs, evalS, evalE, evalEs, evalIT, Res.bind_ok, Res.bind_bad, Res.bind_exc, Res.tame_ok, Fl.go_next, Fl.go_ret, Fl.fin_next, Fl.fin_ret, slot_some, List.getElem?_cons_zero, List.getElem?_cons_succ, List.set_cons_zero, List.set_cons_succ, put_nm, put_tu, puts_nil, puts_cons, chainK_t, chainK_f, truth_bool, truth_none, truth_int, truth_list, truth_tuple, truth_str, o2_add_i, o2_sub_i, o2_lt_i, o2_le_i, o2_gt_i, o2_ge_i, o2_is_n, o2_is_b, o2_isnot_n, o2_isnot_b, o2_eq_i, o2_eq_s, o2_eq_ns, o2_eq_b, o2_ne_b, o2_idx_t0, o2_idx_t1, o1_len_scr, o1_len_t, o1_len_l, o1_len_s, o1_not_b, o1_tuple_l, o1_list_t, o1_list_l, o1_rev_t, o1_neg_i, o1_int_b, isi_s, isi_i, isi_b, isi_n, isi_t, isi_l, isTy, isNone_n, isNone_b, isNone_i, isNone_s, isNone_t, isNone_l, isBool_b, Bool.not_true, Bool.not_false, eq_self, if_true, if_false, Bool.false_eq_true, reduceIte, beq_self_eq_true] <;> rfl, ?_⟩
    have hp' : p ∈ hs.map (chE (.moved a b)) := (risB_perm _).mem_iff.mp hp
    have := dict_ent nd hp'
    simp only [evalSs, evalS, evalE, evalEs, evalIT, Res.bind_ok, Res.bind_bad, Res.bind_exc, Res.tame_ok, Fl.go_next, Fl.go_ret, Fl.fin_next, Fl.fin_ret, slot_some, List.getElem?_cons_zero, List.getElem?_cons_succ, List.set_cons_zero, List.set_cons_succ, put_nm, put_tu, puts_nil, puts_cons, chainK_t, chainK_f, truth_bool, truth_none, truth_int, truth_list, truth_tuple, truth_str, o2_add_i, o2_sub_i, o2_lt_i, o2_le_i, o2_gt_i, o2_ge_i, o2_is_n, o2_is_b, o2_isnot_n, o2_isnot_b, o2_eq_i, o2_eq_s, o2_eq_ns, o2_eq_b, o2_ne_b, o2_idx_t0, o2_idx_t1, o1_len_scr, o1_len_t, o1_len_l, o1_len_s, o1_not_b, o1_tuple_l, o1_list_t, o1_list_l, o1_rev_t, o1_neg_i, o1_int_b, isi_s, isi_i, isi_b, isi_n, isi_t, isi_l, isTy, isNone_n, isNone_b, isNone_i, isNone_s, isNone_t, isNone_l, isBool_b, Bool.not_true, Bool.not_false, eq_self, if_true, if_false, Bool.false_eq_true, reduceIte, beq_self_eq_true, this, entD]
  exact fin_of (seq_if_t (d := .bool true) (by simp only [evalSs, evalS, evalE, evalEs, evalIT, Res.bind_ok, Res.bind_bad, Res.bind_exc, Res.tame_ok, Fl.go_next, Fl.go_ret, Fl.fin_next, Fl.fin_ret, slot_some, List.getElem?_cons_zero, List.getElem?_cons_succ, List.set_cons_zero, List.set_cons_succ, put_nm, put_tu, puts_nil, puts_cons, chainK_t, chainK_f, truth_bool, truth_none, truth_int, truth_list, truth_tuple, truth_str, o2_add_i, o2_sub_i, o2_lt_i, o2_le_i, o2_gt_i, o2_ge_i, o2_is_n, o2_is_b, o2_isnot_n, o2_isnot_b, o2_eq_i, o2_eq_s, o2_eq_ns, o2_eq_b, o2_ne_b, o2_idx_t0, o2_idx_t1, o1_len_scr, o1_len_t, o1_len_l, o1_len_s, o1_not_b, o1_tuple_l, o1_list_t, o1_list_l, o1_rev_t, o1_neg_i, o1_int_b, isi_s, isi_i, isi_b, isi_n, isi_t, isi_l, isTy, isNone_n, isNone_b, isNone_i, isNone_s, isNone_t, isNone_l, isBool_b, Bool.not_true, Bool.not_false, eq_self, if_true, if_false, Bool.false_eq_true, reduceIte, beq_self_eq_true, chD]) rfl ((seq_asg (by simp only [evalSs, evalS, evalE, evalEs, evalIT, Res.bind_ok, Res.bind_bad, Res.bind_exc, Res.tame_ok, Fl.go_next, Fl.go_ret, Fl.fin_next, Fl.fin_ret, slot_some, List.getElem?_cons_zero, List.getElem?_cons_succ, List.set_cons_zero, List.set_cons_succ, put_nm, put_tu, puts_nil, puts_cons, chainK_t, chainK_f, truth_bool, truth_none, truth_int, truth_list, truth_tuple, truth_str, o2_add_i, o2_sub_i, o2_lt_i, o2_le_i, o2_gt_i, o2_ge_i, o2_is_n, o2_is_b, o2_isnot_n, o2_isnot_b, o2_eq_i, o2_eq_s, o2_eq_ns, o2_eq_b, o2_ne_b, o2_idx_t0, o2_idx_t1, o1_len_scr, o1_len_t, o1_len_l, o1_len_s, o1_not_b, o1_tuple_l, o1_list_t, o1_list_l, o1_rev_t, o1_neg_i, o1_int_b, isi_s, isi_i, isi_b, isi_n, isi_t, isi_l, isTy, isNone_n, isNone_b, isNone_i, isNone_s, isNone_t, isNone_l, isBool_b, Bool.not_true, Bool.not_false, eq_self, if_true, if_false, Bool.false_eq_true, reduceIte, beq_self_eq_true, c0, hd] <;> rfl)).trans (seq_ret (by simp only [evalSs, evalS, evalE, evalEs, evalIT, Res.bind_ok, Res.bind_bad, Res.bind_exc, Res.tame_ok, Fl.go_next, Fl.go_ret, Fl.fin_next, Fl.fin_ret, slot_some, List.getElem?_cons_zero, List.getElem?_cons_succ, List.set_cons_zero, List.set_cons_succ, put_nm, put_tu, puts_nil, puts_cons, chainK_t, chainK_f, truth_bool, truth_none, truth_int, truth_list, truth_tuple, truth_str, o2_add_i, o2_sub_i, o2_lt_i, o2_le_i, o2_gt_i, o2_ge_i, o2_is_n, o2_is_b, o2_isnot_n, o2_isnot_b, o2_eq_i, o2_eq_s, o2_eq_ns, o2_eq_b, o2_ne_b, o2_idx_t0, o2_idx_t1, o1_len_scr, o1_len_t, o1_len_l, o1_len_s, o1_not_b, o1_tuple_l, o1_list_t, o1_list_l, o1_rev_t, o1_neg_i, o1_int_b, isi_s, isi_i, isi_b, isi_n, isi_t, isi_l, isTy, isNone_n, isNone_b, isNone_i, isNone_s, isNone_t, isNone_l, isBool_b, Bool.not_true, Bool.not_false, eq_self, if_true, if_false, Bool.false_eq_true, reduceIte, beq_self_eq_true, c1] <;> rfl))))
theorem changed_heads_else (n : Nat) (h : Ch) (hm : isMoved h = false) (hs : List (Str × Tb)) (hl : hs.length ≤ 60) (ht : ∀ p ∈ hs, TabFew p.2) : callF defs (n + 3) F.changed_heads [headsD (hsOf hs), chD h] = .ok (headsD (hsOf (hs.map (chE h)))) := by
  rw [u_changed_heads]
  have w := chWord_moved h
  rw [hm] at w
  obtain ⟨e, l, o3, o4, rfl⟩ := forD_acc (f := fun d env => ((Tg.tu (.cons (.nm 3) (.cons (.nm 4) .nil))).put d env).bind fun e' => evalSs (callF defs (n + 2)) b_changed_heads_1 e')
    (fun acc env => ∃ o3 o4, env = [some (headsD (hsOf hs)), some (chD h), some (.list (acc.map headD)), o3, o4]) (fun p : Str × Tb => headD (p.1, p.2.cols)) (fun p => ((chE h p).1, (chE h p).2.cols)) hs [] [some (headsD (hsOf hs)), some (chD h), some (.list []), none, none] (fun p hp acc env hacc he => by
      obtain ⟨o3, o4, rfl⟩ := he
      have hacc : acc.length < hs.length := by simpa using hacc
      have e1 : ((Tg.tu (.cons (.nm 3) (.cons (.nm 4) .nil))).put (headD (p.1, p.2.cols)) [some (headsD (hsOf hs)), some (chD h), some (.list (acc.map headD)), o3, o4]) = .ok [some (headsD (hsOf hs)), some (chD h), some (.list (acc.map headD)), some (.str p.1), some (.tuple (p.2.cols.map colD))] := by simp only [evalSs, evalS, evalE, evalEs, evalIT, Res.bind_ok, Res.bind_bad, Res.bind_exc, Res.tame_ok, Fl.go_next, Fl.go_ret, Fl.fin_next, Fl.fin_ret, slot_some, List.getElem?_cons_zero, List.getElem?_cons_succ, List.set_cons_zero, List.set_cons_succ, put_nm, put_tu, puts_nil, puts_cons, chainK_t, chainK_f, truth_bool, truth_none, truth_int, truth_list, truth_tuple, truth_str, o2_add_i, o2_sub_i, o2_lt_i, o2_le_i, o2_gt_i, o2_ge_i, o2_is_n, o2_is_b, o2_isnot_n, o2_isnot_b, o2_eq_i, o2_eq_s, o2_eq_ns, o2_eq_b, o2_ne_b, o2_idx_t0, o2_idx_t1, o1_len_scr, o1_len_t, o1_len_l, o1_len_s, o1_not_b, o1_tuple_l, o1_list_t, o1_list_l, o1_rev_t, o1_neg_i, o1_int_b, isi_s, isi_i, isi_b, isi_n, isi_t, isi_l, isTy, isNone_n, isNone_b, isNone_i, isNone_s, isNone_t, isNone_l, isBool_b, Bool.not_true, Bool.not_false, eq_self, if_true, if_false, Bool.false_eq_true, reduceIte, beq_self_eq_true, headD]
      have fin : ∀ t : List Col, evalSs (callF defs (n + 2)) (.cons (.app 2 (.tup (.cons (.var 3) (.cons (.var 4) .nil)))) .nil) [some (headsD (hsOf hs)), some (chD h), some (.list (acc.map headD)), some (.str p.1), some (.tuple (t.map colD))] = .ok (.next [some (headsD (hsOf hs)), some (chD h), some (.list ((acc ++ [(p.1, t)]).map headD)), some (.str p.1), some (.tuple (t.map colD))]) := fun t => by
        refine seq_next (app_of (d := headD (p.1, t)) (ds := acc.map headD) (by simp only [evalSs, evalS, evalE, evalEs, evalIT, Res.bind_ok, Res.bind_bad, Res.bind_exc, Res.tame_ok, Fl.go_next, Fl.go_ret, Fl.fin_next, Fl.fin_ret, slot_some, List.getElem?_cons_zero, List.getElem?_cons_succ, List.set_cons_zero, List.set_cons_succ, put_nm, put_tu, puts_nil, puts_cons, chainK_t, chainK_f, truth_bool, truth_none, truth_int, truth_list, truth_tuple, truth_str, o2_add_i, o2_sub_i, o2_lt_i, o2_le_i, o2_gt_i, o2_ge_i, o2_is_n, o2_is_b, o2_isnot_n, o2_isnot_b, o2_eq_i, o2_eq_s, o2_eq_ns, o2_eq_b, o2_ne_b, o2_idx_t0, o2_idx_t1, o1_len_scr, o1_len_t, o1_len_l, o1_len_s, o1_not_b, o1_tuple_l, o1_list_t, o1_list_l, o1_rev_t, o1_neg_i, o1_int_b, isi_s, isi_i, isi_b, isi_n, isi_t, isi_l, isTy, isNone_n, isNone_b, isNone_i, isNone_s, isNone_t, isNone_l, isBool_b, Bool.not_true, Bool.not_false, eq_self, if_true, if_false, Bool.false_eq_true, reduceIte, beq_self_eq_true, headD]) rfl (by rw [List.length_map]; omega)) ?_
        rw [List.map_append]; rfl
      rw [chE_else hm]
      by_cases q : p.1 = chAt h
      · have q' : (p.1 == chAt h) = true := by rw [beq_iff_eq]; exact q
        rw [if_pos q]
        have h1 := changed_heading_eq n h hm p.2.cols (ht p hp).c
        refine ⟨_, ?_, some (.str p.1), some (.tuple ((chC h p.2.cols).map colD)), rfl⟩
        rw [e1]
        simp only [bind_ok]
        unfold b_changed_heads_1
        refine (seq_if_n (d := .bool true) (by simp only [evalSs, evalS, evalE, evalEs, evalIT, Res.bind_ok, Res.bind_bad, Res.bind_exc, Res.tame_ok, Fl.go_next, Fl.go_ret, Fl.fin_next, Fl.fin_ret, slot_some, List.getElem?_cons_zero, List.getElem?_cons_succ, List.set_cons_zero, List.set_cons_succ, put_nm, put_tu, puts_nil, puts_cons, chainK_t, chainK_f, truth_bool, truth_none, truth_int, truth_list, truth_tuple, truth_str, o2_add_i, o2_sub_i, o2_lt_i, o2_le_i, o2_gt_i, o2_ge_i, o2_is_n, o2_is_b, o2_isnot_n, o2_isnot_b, o2_eq_i, o2_eq_s, o2_eq_ns, o2_eq_b, o2_ne_b, o2_idx_t0, o2_idx_t1, o1_len_scr, o1_len_t, o1_len_l, o1_len_s, o1_not_b, o1_tuple_l, o1_list_t, o1_list_l, o1_rev_t, o1_neg_i, o1_int_b, isi_s, isi_i, isi_b, isi_n, isi_t, isi_l, isTy, isNone_n, isNone_b, isNone_i, isNone_s, isNone_t, isNone_l, isBool_b, Bool.not_true, Bool.not_false, eq_self, if_true, if_false, Bool.false_eq_true, reduceIte, beq_self_eq_true, chD_at, q']) rfl ((seq_asg (d := .tuple ((chC h p.2.cols).map colD)) (by simp only [evalSs, evalS, evalE, evalEs, evalIT, Res.bind_ok, Res.bind_bad, Res.bind_exc, Res.tame_ok, Fl.go_next, Fl.go_ret, Fl.fin_next, Fl.fin_ret, slot_some, List.getElem?_cons_zero, List.getElem?_cons_succ, List.set_cons_zero, List.set_cons_succ, put_nm, put_tu, puts_nil, puts_cons, chainK_t, chainK_f, truth_bool, truth_none, truth_int, truth_list, truth_tuple, truth_str, o2_add_i, o2_sub_i, o2_lt_i, o2_le_i, o2_gt_i, o2_ge_i, o2_is_n, o2_is_b, o2_isnot_n, o2_isnot_b, o2_eq_i, o2_eq_s, o2_eq_ns, o2_eq_b, o2_ne_b, o2_idx_t0, o2_idx_t1, o1_len_scr, o1_len_t, o1_len_l, o1_len_s, o1_not_b, o1_tuple_l, o1_list_t, o1_list_l, o1_rev_t, o1_neg_i, o1_int_b, isi_s, isi_i, isi_b, isi_n, isi_t, isi_l, isTy, isNone_n, isNone_b, isNone_i, isNone_s, isNone_t, isNone_l, isBool_b, Bool.not_true, Bool.not_false, eq_self, if_true, if_false, Bool.false_eq_true, reduceIte, beq_self_eq_true, h1])).trans rfl)).trans ?_
        exact fin _
      · have q' : (p.1 == chAt h) = false := beq_eq_false_iff_ne.mpr q
        rw [if_neg q]
        refine ⟨_, ?_, some (.str p.1), some (.tuple (p.2.cols.map colD)), rfl⟩
        rw [e1]
        simp only [bind_ok]
        unfold b_changed_heads_1
        exact (seq_if_f (d := .bool false) (by simp only [evalSs, evalS, evalE, evalEs, evalIT, Res.bind_ok, Res.bind_bad, Res.bind_exc, Res.tame_ok, Fl.go_next, Fl.go_ret, Fl.fin_next, Fl.fin_ret, slot_some, List.getElem?_cons_zero, List.getElem?_cons_succ, List.set_cons_zero, List.set_cons_succ, put_nm, put_tu, puts_nil, puts_cons, chainK_t, chainK_f, truth_bool, truth_none, truth_int, truth_list, truth_tuple, truth_str, o2_add_i, o2_sub_i, o2_lt_i, o2_le_i, o2_gt_i, o2_ge_i, o2_is_n, o2_is_b, o2_isnot_n, o2_isnot_b, o2_eq_i, o2_eq_s, o2_eq_ns, o2_eq_b, o2_ne_b, o2_idx_t0, o2_idx_t1, o1_len_scr, o1_len_t, o1_len_l, o1_len_s, o1_not_b, o1_tuple_l, o1_list_t, o1_list_l, o1_rev_t, o1_neg_i, o1_int_b, isi_s, isi_i, isi_b, isi_n, isi_t, isi_l, isTy, isNone_n, isNone_b, isNone_i, isNone_s, isNone_t, isNone_l, isBool_b, Bool.not_true, Bool.not_false, eq_self, if_true, if_false, Bool.false_eq_true, reduceIte, beq_self_eq_true, chD_at, q']) rfl rfl).trans (fin _)) ⟨none, none, rfl⟩
  have ei : evalIT (callF defs (n + 2)) (.seq (.var 0)) [some (headsD (hsOf hs)), some (chD h), some (.list []), none, none] = .ok (hs.map fun p : Str × Tb => headD (p.1, p.2.cols)) := by
    simp only [evalSs, evalS, evalE, evalEs, evalIT, Res.bind_ok, Res.bind_bad, Res.bind_exc, Res.tame_ok, Fl.go_next, Fl.go_ret, Fl.fin_next, Fl.fin_ret, slot_some, List.getElem?_cons_zero, List.getElem?_cons_succ, List.set_cons_zero, List.set_cons_succ, put_nm, put_tu, puts_nil, puts_cons, chainK_t, chainK_f, truth_bool, truth_none, truth_int, truth_list, truth_tuple, truth_str, o2_add_i, o2_sub_i, o2_lt_i, o2_le_i, o2_gt_i, o2_ge_i, o2_is_n, o2_is_b, o2_isnot_n, o2_isnot_b, o2_eq_i, o2_eq_s, o2_eq_ns, o2_eq_b, o2_ne_b, o2_idx_t0, o2_idx_t1, o1_len_scr, o1_len_t, o1_len_l, o1_len_s, o1_not_b, o1_tuple_l, o1_list_t, o1_list_l, o1_rev_t, o1_neg_i, o1_int_b, isi_s, isi_i, isi_b, isi_n, isi_t, isi_l, isTy, isNone_n, isNone_b, isNone_i, isNone_s, isNone_t, isNone_l, isBool_b, Bool.not_true, Bool.not_false, eq_self, if_true, if_false, Bool.false_eq_true, reduceIte, beq_self_eq_true, headsD, itemsOf, hsOf, List.map_map] <;> rfl
  have eo : (hs.map fun p => ((chE h p).1, (chE h p).2.cols)) = hsOf (hs.map (chE h)) := by
    unfold hsOf
    rw [List.map_map]; rfl
  refine fin_of ((seq_if_f (d := .bool false) (by simp only [evalSs, evalS, evalE, evalEs, evalIT, Res.bind_ok, Res.bind_bad, Res.bind_exc, Res.tame_ok, Fl.go_next, Fl.go_ret, Fl.fin_next, Fl.fin_ret, slot_some, List.getElem?_cons_zero, List.getElem?_cons_succ, List.set_cons_zero, List.set_cons_succ, put_nm, put_tu, puts_nil, puts_cons, chainK_t, chainK_f, truth_bool, truth_none, truth_int, truth_list, truth_tuple, truth_str, o2_add_i, o2_sub_i, o2_lt_i, o2_le_i, o2_gt_i, o2_ge_i, o2_is_n, o2_is_b, o2_isnot_n, o2_isnot_b, o2_eq_i, o2_eq_s, o2_eq_ns, o2_eq_b, o2_ne_b, o2_idx_t0, o2_idx_t1, o1_len_scr, o1_len_t, o1_len_l, o1_len_s, o1_not_b, o1_tuple_l, o1_list_t, o1_list_l, o1_rev_t, o1_neg_i, o1_int_b, isi_s, isi_i, isi_b, isi_n, isi_t, isi_l, isTy, isNone_n, isNone_b, isNone_i, isNone_s, isNone_t, isNone_l, isBool_b, Bool.not_true, Bool.not_false, eq_self, if_true, if_false, Bool.false_eq_true, reduceIte, beq_self_eq_true, chD_word, w]) rfl rfl).trans (seq_next (e := [some (headsD (hsOf hs)), some (chD h), some (.list []), none, none]) rfl ((seq_for ei l).trans (seq_ret (by rw [eo]; simp only [evalSs, evalS, evalE, evalEs, evalIT, Res.bind_ok, Res.bind_bad, Res.bind_exc, Res.tame_ok, Fl.go_next, Fl.go_ret, Fl.fin_next, Fl.fin_ret, slot_some, List.getElem?_cons_zero, List.getElem?_cons_succ, List.set_cons_zero, List.set_cons_succ, put_nm, put_tu, puts_nil, puts_cons, chainK_t, chainK_f, truth_bool, truth_none, truth_int, truth_list, truth_tuple, truth_str, o2_add_i, o2_sub_i, o2_lt_i, o2_le_i, o2_gt_i, o2_ge_i, o2_is_n, o2_is_b, o2_isnot_n, o2_isnot_b, o2_eq_i, o2_eq_s, o2_eq_ns, o2_eq_b, o2_ne_b, o2_idx_t0, o2_idx_t1, o1_len_scr, o1_len_t, o1_len_l, o1_len_s, o1_not_b, o1_tuple_l, o1_list_t, o1_list_l, o1_rev_t, o1_neg_i, o1_int_b, isi_s, isi_i, isi_b, isi_n, isi_t, isi_l, isTy, isNone_n, isNone_b, isNone_i, isNone_s, isNone_t, isNone_l, isBool_b, Bool.not_true, Bool.not_false, eq_self, if_true, if_false, Bool.false_eq_true, reduceIte, beq_self_eq_true, headsD, List.nil_append])))))
theorem changed_heads_moved (n : Nat) (a b : Str) (hs : List (Str × Tb)) (hl : hs.length ≤ 60) (nd : ((hs.map (chE (.moved a b))).map (·.1)).Nodup) : callF defs (n + 2) F.changed_heads [headsD (hsOf hs), chD (.moved a b)] = .ok (headsD (hsOf (chHs (.moved a b) hs))) := by
  rw [u_changed_heads]
  have c0 : evalE (callF defs (n + 1)) c_changed_heads_0 [some (headsD (hsOf hs)), some (chD (.moved a b)), none, none, none] = .ok (.list (((hs.map (chE (.moved a b))).map fun p => (p.1, PyData.tuple (p.2.cols.map colD))).map npD)) := by
    unfold c_changed_heads_0
    rw [List.map_map, List.map_map]
    refine comp_map hs (fun p : Str × Tb => headD (p.1, p.2.cols)) _ (by simp only [evalSs, evalS, evalE, evalEs, evalIT, Res.bind_ok, Res.bind_bad, Res.bind_exc, Res.tame_ok, Fl.go_next, Fl.go_ret, Fl.fin_next, Fl.fin_ret, slot_some, List.getElem?_cons_zero, List.getElem?_cons_succ, List.set_cons_zero, List.set_cons_succ, put_nm, put_tu, puts_nil, puts_cons, chainK_t, chainK_f, truth_bool, truth_none, truth_int, truth_list, truth_tuple, truth_str, o2_add_i, o2_sub_i, o2_lt_i, o2_le_i, o2_gt_i, o2_ge_i, o2_is_n, o2_is_b, o2_isnot_n, o2_isnot_b, o2_eq_i, o2_eq_s, o2_eq_ns, o2_eq_b, o2_ne_b, o2_idx_t0, o2_idx_t1, o1_len_scr, o1_len_t, o1_len_l, o1_len_s, o1_not_b, o1_tuple_l, o1_list_t, o1_list_l, o1_rev_t, o1_neg_i, o1_int_b, isi_s, isi_i, isi_b, isi_n, isi_t, isi_l, isTy, isNone_n, isNone_b, isNone_i, isNone_s, isNone_t, isNone_l, isBool_b, Bool.not_true, Bool.not_false, eq_self, if_true, if_false, Bool.false_eq_true, reduceIte, beq_self_eq_true, headsD, itemsOf, hsOf, List.map_map] <;> rfl) fun p _ => ⟨_, by simp only [evalSs, evalS, evalE, evalEs, evalIT, Res.bind_ok, Res.bind_bad, Res.bind_exc, Res.tame_ok, Fl.go_next, Fl.go_ret, Fl.fin_next, Fl.fin_ret, slot_some, List.getElem?_cons_zero, List.getElem?_cons_succ, List.set_cons_zero, List.set_cons_succ, put_nm, put_tu, puts_nil, puts_cons, chainK_t, chainK_f, truth_bool, truth_none, truth_int, truth_list, truth_tuple, truth_str, o2_add_i, o2_sub_i, o2_lt_i, o2_le_i, o2_gt_i, o2_ge_i, o2_is_n, o2_is_b, o2_isnot_n, o2_isnot_b, o2_eq_i, o2_eq_s, o2_eq_ns, o2_eq_b, o2_ne_b, o2_idx_t0, o2_idx_t1, o1_len_scr, o1_len_t, o1_len_l, o1_len_s, o1_not_b, o1_tuple_l, o1_list_t, o1_list_l, o1_rev_t, o1_neg_i, o1_int_b, isi_s, isi_i, isi_b, isi_n, isi_t, isi_l, isTy, isNone_n, isNone_b, isNone_i, isNone_s, isNone_t, isNone_l, isBool_b, Bool.not_true, Bool.not_false, eq_self, if_true, if_false, Bool.false_eq_true, reduceIte, beq_self_eq_true, headD] <;> rfl, ?_⟩
    have := called_eq n p.1 a b
    simp only [Function.comp]
    rw [chE_moved]
    simp only [evalSs, evalS, evalE, evalEs, evalIT, Res.bind_ok, Res.bind_bad, Res.bind_exc, Res.tame_ok, Fl.go_next, Fl.go_ret, Fl.fin_next, Fl.fin_ret, slot_some, List.getElem?_cons_zero, List.getElem?_cons_succ, List.set_cons_zero, List.set_cons_succ, put_nm, put_tu, puts_nil, puts_cons, chainK_t, chainK_f, truth_bool, truth_none, truth_int, truth_list, truth_tuple, truth_str, o2_add_i, o2_sub_i, o2_lt_i, o2_le_i, o2_gt_i, o2_ge_i, o2_is_n, o2_is_b, o2_isnot_n, o2_isnot_b, o2_eq_i, o2_eq_s, o2_eq_ns, o2_eq_b, o2_ne_b, o2_idx_t0, o2_idx_t1, o1_len_scr, o1_len_t, o1_len_l, o1_len_s, o1_not_b, o1_tuple_l, o1_list_t, o1_list_l, o1_rev_t, o1_neg_i, o1_int_b, isi_s, isi_i, isi_b, isi_n, isi_t, isi_l, isTy, isNone_n, isNone_b, isNone_i, isNone_s, isNone_t, isNone_l, isBool_b, Bool.not_true, Bool.not_false, eq_self, if_true, if_false, Bool.false_eq_true, reduceIte, beq_self_eq_true, chD, idx_t2, this, npD]
  have sp := sorted_pairs ((hs.map (chE (.moved a b))).map fun p => (p.1, PyData.tuple (p.2.cols.map colD))) (by rw [List.length_map, List.length_map]; omega) (by rw [List.map_map]; exact nd) (fun e he => by
    obtain ⟨p, _, rfl⟩ := List.mem_map.mp he
    rfl)
  rw [ris_snd (fun t : Tb => PyData.tuple (t.cols.map colD))] at sp
  refine fin_of (seq_if_t (d := .bool true) (by simp only [evalSs, evalS, evalE, evalEs, evalIT, Res.bind_ok, Res.bind_bad, Res.bind_exc, Res.tame_ok, Fl.go_next, Fl.go_ret, Fl.fin_next, Fl.fin_ret, slot_some, List.getElem?_cons_zero, List.getElem?_cons_succ, List.set_cons_zero, List.set_cons_succ, put_nm, put_tu, puts_nil, puts_cons, chainK_t, chainK_f, truth_bool, truth_none, truth_int, truth_list, truth_tuple, truth_str, o2_add_i, o2_sub_i, o2_lt_i, o2_le_i, o2_gt_i, o2_ge_i, o2_is_n, o2_is_b, o2_isnot_n, o2_isnot_b, o2_eq_i, o2_eq_s, o2_eq_ns, o2_eq_b, o2_ne_b, o2_idx_t0, o2_idx_t1, o1_len_scr, o1_len_t, o1_len_l, o1_len_s, o1_not_b, o1_tuple_l, o1_list_t, o1_list_l, o1_rev_t, o1_neg_i, o1_int_b, isi_s, isi_i, isi_b, isi_n, isi_t, isi_l, isTy, isNone_n, isNone_b, isNone_i, isNone_s, isNone_t, isNone_l, isBool_b, Bool.not_true, Bool.not_false, eq_self, if_true, if_false, Bool.false_eq_true, reduceIte, beq_self_eq_true, chD]) rfl (seq_ret ?_))
  have eo : ((risB (hs.map (chE (.moved a b)))).map fun x => (x.1, PyData.tuple (x.2.cols.map colD))).map npD = (hsOf (chHs (.moved a b) hs)).map headD := by
    unfold hsOf chHs
    rw [List.map_map, List.map_map]; rfl
  rw [eo] at sp
  simp only [evalSs, evalS, evalE, evalEs, evalIT, Res.bind_ok, Res.bind_bad, Res.bind_exc, Res.tame_ok, Fl.go_next, Fl.go_ret, Fl.fin_next, Fl.fin_ret, slot_some, List.getElem?_cons_zero, List.getElem?_cons_succ, List.set_cons_zero, List.set_cons_succ, put_nm, put_tu, puts_nil, puts_cons, chainK_t, chainK_f, truth_bool, truth_none, truth_int, truth_list, truth_tuple, truth_str, o2_add_i, o2_sub_i, o2_lt_i, o2_le_i, o2_gt_i, o2_ge_i, o2_is_n, o2_is_b, o2_isnot_n, o2_isnot_b, o2_eq_i, o2_eq_s, o2_eq_ns, o2_eq_b, o2_ne_b, o2_idx_t0, o2_idx_t1, o1_len_scr, o1_len_t, o1_len_l, o1_len_s, o1_not_b, o1_tuple_l, o1_list_t, o1_list_l, o1_rev_t, o1_neg_i, o1_int_b, isi_s, isi_i, isi_b, isi_n, isi_t, isi_l, isTy, isNone_n, isNone_b, isNone_i, isNone_s, isNone_t, isNone_l, isBool_b, Bool.not_true, Bool.not_false, eq_self, if_true, if_false, Bool.false_eq_true, reduceIte, beq_self_eq_true, c0, sp] <;> rfl
theorem law_changed_eq (n : Nat) (h : Ch) (hs : List (Str × Tb)) (hl : hs.length ≤ 60) (ht : ∀ p ∈ hs, TabFew p.2) (nd : ((hs.map (chE h)).map (·.1)).Nodup) : callF defs (n + 2) F.law_changed [houseD hs, chD h] = .ok (houseD (chHs h hs)) := by
  rw [u_law_changed]
  obtain ⟨k1, k2, k3, k4, k5, k6, k7, k8, k9⟩ := ch_words
  obtain ⟨e, l, o4, o5, o6, rfl⟩ := forD_acc (f := fun d env => ((Tg.tu (.cons (.nm 4) (.cons (.tu (.cons (.nm 5) (.cons (.nm 6) .nil))) .nil))).put d env).bind fun e' => evalSs (callF defs (n + 1)) b_law_changed_3 e')
    (fun acc env => ∃ o4 o5 o6, env = [some (houseD hs), some (chD h), some (.list (acc.map entD)), none, o4, o5, o6, none, none, none, none]) entD (chE h) hs [] [some (houseD hs), some (chD h), some (.list []), none, none, none, none, none, none, none, none] (fun p hp acc env hacc he => by
      obtain ⟨o4, o5, o6, rfl⟩ := he
      have hacc : acc.length < hs.length := by simpa using hacc
      have e1 : ((Tg.tu (.cons (.nm 4) (.cons (.tu (.cons (.nm 5) (.cons (.nm 6) .nil))) .nil))).put (entD p) [some (houseD hs), some (chD h), some (.list (acc.map entD)), none, o4, o5, o6, none, none, none, none]) = .ok [some (houseD hs), some (chD h), some (.list (acc.map entD)), none, some (.str p.1), some (.tuple (p.2.cols.map colD)), some (.tuple (p.2.rows.map PyData.tuple)), none, none, none, none] := by simp only [evalSs, evalS, evalE, evalEs, evalIT, Res.bind_ok, Res.bind_bad, Res.bind_exc, Res.tame_ok, Fl.go_next, Fl.go_ret, Fl.fin_next, Fl.fin_ret, slot_some, List.getElem?_cons_zero, List.getElem?_cons_succ, List.set_cons_zero, List.set_cons_succ, put_nm, put_tu, puts_nil, puts_cons, chainK_t, chainK_f, truth_bool, truth_none, truth_int, truth_list, truth_tuple, truth_str, o2_add_i, o2_sub_i, o2_lt_i, o2_le_i, o2_gt_i, o2_ge_i, o2_is_n, o2_is_b, o2_isnot_n, o2_isnot_b, o2_eq_i, o2_eq_s, o2_eq_ns, o2_eq_b, o2_ne_b, o2_idx_t0, o2_idx_t1, o1_len_scr, o1_len_t, o1_len_l, o1_len_s, o1_not_b, o1_tuple_l, o1_list_t, o1_list_l, o1_rev_t, o1_neg_i, o1_int_b, isi_s, isi_i, isi_b, isi_n, isi_t, isi_l, isTy, isNone_n, isNone_b, isNone_i, isNone_s, isNone_t, isNone_l, isBool_b, Bool.not_true, Bool.not_false, eq_self, if_true, if_false, Bool.false_eq_true, reduceIte, beq_self_eq_true, entD, tabD]
      have fin : ∀ p : Str × Tb, evalSs (callF defs (n + 1)) (.cons (.app 2 (.tup (.cons (.var 4) (.cons (.tup (.cons (.var 5) (.cons (.var 6) .nil))) .nil)))) .nil) [some (houseD hs), some (chD h), some (.list (acc.map entD)), none, some (.str p.1), some (.tuple (p.2.cols.map colD)), some (.tuple (p.2.rows.map PyData.tuple)), none, none, none, none] = .ok (.next [some (houseD hs), some (chD h), some (.list ((acc ++ [p]).map entD)), none, some (.str p.1), some (.tuple (p.2.cols.map colD)), some (.tuple (p.2.rows.map PyData.tuple)), none, none, none, none]) := fun p => by
        refine seq_next (app_of (d := entD p) (ds := acc.map entD) (by simp only [evalSs, evalS, evalE, evalEs, evalIT, Res.bind_ok, Res.bind_bad, Res.bind_exc, Res.tame_ok, Fl.go_next, Fl.go_ret, Fl.fin_next, Fl.fin_ret, slot_some, List.getElem?_cons_zero, List.getElem?_cons_succ, List.set_cons_zero, List.set_cons_succ, put_nm, put_tu, puts_nil, puts_cons, chainK_t, chainK_f, truth_bool, truth_none, truth_int, truth_list, truth_tuple, truth_str, o2_add_i, o2_sub_i, o2_lt_i, o2_le_i, o2_gt_i, o2_ge_i, o2_is_n, o2_is_b, o2_isnot_n, o2_isnot_b, o2_eq_i, o2_eq_s, o2_eq_ns, o2_eq_b, o2_ne_b, o2_idx_t0, o2_idx_t1, o1_len_scr, o1_len_t, o1_len_l, o1_len_s, o1_not_b, o1_tuple_l, o1_list_t, o1_list_l, o1_rev_t, o1_neg_i, o1_int_b, isi_s, isi_i, isi_b, isi_n, isi_t, isi_l, isTy, isNone_n, isNone_b, isNone_i, isNone_s, isNone_t, isNone_l, isBool_b, Bool.not_true, Bool.not_false, eq_self, if_true, if_false, Bool.false_eq_true, reduceIte, beq_self_eq_true, entD, tabD]) rfl (by rw [List.length_map]; omega)) ?_
        rw [List.map_append]; rfl
      refine ⟨[some (houseD hs), some (chD h), some (.list ((acc ++ [chE h p]).map entD)), none, some (.str (chE h p).1), some (.tuple ((chE h p).2.cols.map colD)), some (.tuple ((chE h p).2.rows.map PyData.tuple)), none, none, none, none], ?_, _, _, _, rfl⟩
      rw [e1]
      simp only [bind_ok]
      unfold b_law_changed_3
      have hw := chD_word h
      have ha := chD_at h
      by_cases q : p.1 = chAt h
      · have q' : (p.1 == chAt h) = true := by rw [beq_iff_eq]; exact q
        cases h with
        | moved a b =>
          refine (seq_if_n (d := .bool true) (by simp only [evalSs, evalS, evalE, evalEs, evalIT, Res.bind_ok, Res.bind_bad, Res.bind_exc, Res.tame_ok, Fl.go_next, Fl.go_ret, Fl.fin_next, Fl.fin_ret, slot_some, List.getElem?_cons_zero, List.getElem?_cons_succ, List.set_cons_zero, List.set_cons_succ, put_nm, put_tu, puts_nil, puts_cons, chainK_t, chainK_f, truth_bool, truth_none, truth_int, truth_list, truth_tuple, truth_str, o2_add_i, o2_sub_i, o2_lt_i, o2_le_i, o2_gt_i, o2_ge_i, o2_is_n, o2_is_b, o2_isnot_n, o2_isnot_b, o2_eq_i, o2_eq_s, o2_eq_ns, o2_eq_b, o2_ne_b, o2_idx_t0, o2_idx_t1, o1_len_scr, o1_len_t, o1_len_l, o1_len_s, o1_not_b, o1_tuple_l, o1_list_t, o1_list_l, o1_rev_t, o1_neg_i, o1_int_b, isi_s, isi_i, isi_b, isi_n, isi_t, isi_l, isTy, isNone_n, isNone_b, isNone_i, isNone_s, isNone_t, isNone_l, isBool_b, Bool.not_true, Bool.not_false, eq_self, if_true, if_false, Bool.false_eq_true, reduceIte, beq_self_eq_true, hw, ha, q', chWord, beq_self_eq_true]) rfl (e := [some (houseD hs), some (chD (.moved a b)), some (.list (acc.map entD)), none, some (.str (chE (.moved a b) p).1), some (.tuple ((chE (.moved a b) p).2.cols.map colD)), some (.tuple ((chE (.moved a b) p).2.rows.map PyData.tuple)), none, none, none, none]) ?_).trans (fin _)
          rw [chE_moved, if_pos (show p.1 = a from q)]
          exact (seq_asg (d := .str b) (by simp only [evalSs, evalS, evalE, evalEs, evalIT, Res.bind_ok, Res.bind_bad, Res.bind_exc, Res.tame_ok, Fl.go_next, Fl.go_ret, Fl.fin_next, Fl.fin_ret, slot_some, List.getElem?_cons_zero, List.getElem?_cons_succ, List.set_cons_zero, List.set_cons_succ, put_nm, put_tu, puts_nil, puts_cons, chainK_t, chainK_f, truth_bool, truth_none, truth_int, truth_list, truth_tuple, truth_str, o2_add_i, o2_sub_i, o2_lt_i, o2_le_i, o2_gt_i, o2_ge_i, o2_is_n, o2_is_b, o2_isnot_n, o2_isnot_b, o2_eq_i, o2_eq_s, o2_eq_ns, o2_eq_b, o2_ne_b, o2_idx_t0, o2_idx_t1, o1_len_scr, o1_len_t, o1_len_l, o1_len_s, o1_not_b, o1_tuple_l, o1_list_t, o1_list_l, o1_rev_t, o1_neg_i, o1_int_b, isi_s, isi_i, isi_b, isi_n, isi_t, isi_l, isTy, isNone_n, isNone_b, isNone_i, isNone_s, isNone_t, isNone_l, isBool_b, Bool.not_true, Bool.not_false, eq_self, if_true, if_false, Bool.false_eq_true, reduceIte, beq_self_eq_true, chD, idx_t2])).trans rfl
        | called a c d =>
          have hc : evalE (callF defs (n + 1)) c_law_changed_0 [some (houseD hs), some (chD (.called a c d)), some (.list (acc.map entD)), none, some (.str p.1), some (.tuple (p.2.cols.map colD)), some (.tuple (p.2.rows.map PyData.tuple)), none, none, none, none] = .ok (.list ((chC (.called a c d) p.2.cols).map colD)) := by
            unfold c_law_changed_0 chC
            refine comp_map2 p.2.cols colD _ _ (by simp only [evalSs, evalS, evalE, evalEs, evalIT, Res.bind_ok, Res.bind_bad, Res.bind_exc, Res.tame_ok, Fl.go_next, Fl.go_ret, Fl.fin_next, Fl.fin_ret, slot_some, List.getElem?_cons_zero, List.getElem?_cons_succ, List.set_cons_zero, List.set_cons_succ, put_nm, put_tu, puts_nil, puts_cons, chainK_t, chainK_f, truth_bool, truth_none, truth_int, truth_list, truth_tuple, truth_str, o2_add_i, o2_sub_i, o2_lt_i, o2_le_i, o2_gt_i, o2_ge_i, o2_is_n, o2_is_b, o2_isnot_n, o2_isnot_b, o2_eq_i, o2_eq_s, o2_eq_ns, o2_eq_b, o2_ne_b, o2_idx_t0, o2_idx_t1, o1_len_scr, o1_len_t, o1_len_l, o1_len_s, o1_not_b, o1_tuple_l, o1_list_t, o1_list_l, o1_rev_t, o1_neg_i, o1_int_b, isi_s, isi_i, isi_b, isi_n, isi_t, isi_l, isTy, isNone_n, isNone_b, isNone_i, isNone_s, isNone_t, isNone_l, isBool_b, Bool.not_true, Bool.not_false, eq_self, if_true, if_false, Bool.false_eq_true, reduceIte, beq_self_eq_true, itemsOf]) fun x _ => ⟨_, by simp only [evalSs, evalS, evalE, evalEs, evalIT, Res.bind_ok, Res.bind_bad, Res.bind_exc, Res.tame_ok, Fl.go_next, Fl.go_ret, Fl.fin_next, Fl.fin_ret, slot_some, List.getElem?_cons_zero, List.getElem?_cons_succ, List.set_cons_zero, List.set_cons_succ, put_nm, put_tu, puts_nil, puts_cons, chainK_t, chainK_f, truth_bool, truth_none, truth_int, truth_list, truth_tuple, truth_str, o2_add_i, o2_sub_i, o2_lt_i, o2_le_i, o2_gt_i, o2_ge_i, o2_is_n, o2_is_b, o2_isnot_n, o2_isnot_b, o2_eq_i, o2_eq_s, o2_eq_ns, o2_eq_b, o2_ne_b, o2_idx_t0, o2_idx_t1, o1_len_scr, o1_len_t, o1_len_l, o1_len_s, o1_not_b, o1_tuple_l, o1_list_t, o1_list_l, o1_rev_t, o1_neg_i, o1_int_b, isi_s, isi_i, isi_b, isi_n, isi_t, isi_l, isTy, isNone_n, isNone_b, isNone_i, isNone_s, isNone_t, isNone_l, isBool_b, Bool.not_true, Bool.not_false, eq_self, if_true, if_false, Bool.false_eq_true, reduceIte, beq_self_eq_true, colD] <;> rfl, ?_⟩
            by_cases qx : x.1 = c
            · have : (x.1 == c) = true := by rw [beq_iff_eq]; exact qx
              simp only [evalSs, evalS, evalE, evalEs, evalIT, Res.bind_ok, Res.bind_bad, Res.bind_exc, Res.tame_ok, Fl.go_next, Fl.go_ret, Fl.fin_next, Fl.fin_ret, slot_some, List.getElem?_cons_zero, List.getElem?_cons_succ, List.set_cons_zero, List.set_cons_succ, put_nm, put_tu, puts_nil, puts_cons, chainK_t, chainK_f, truth_bool, truth_none, truth_int, truth_list, truth_tuple, truth_str, o2_add_i, o2_sub_i, o2_lt_i, o2_le_i, o2_gt_i, o2_ge_i, o2_is_n, o2_is_b, o2_isnot_n, o2_isnot_b, o2_eq_i, o2_eq_s, o2_eq_ns, o2_eq_b, o2_ne_b, o2_idx_t0, o2_idx_t1, o1_len_scr, o1_len_t, o1_len_l, o1_len_s, o1_not_b, o1_tuple_l, o1_list_t, o1_list_l, o1_rev_t, o1_neg_i, o1_int_b, isi_s, isi_i, isi_b, isi_n, isi_t, isi_l, isTy, isNone_n, isNone_b, isNone_i, isNone_s, isNone_t, isNone_l, isBool_b, Bool.not_true, Bool.not_false, eq_self, if_true, if_false, Bool.false_eq_true, reduceIte, beq_self_eq_true, chD, idx_t2, idx_t3, colD, this, if_pos qx]
            · have : (x.1 == c) = false := beq_eq_false_iff_ne.mpr qx
              simp only [evalSs, evalS, evalE, evalEs, evalIT, Res.bind_ok, Res.bind_bad, Res.bind_exc, Res.tame_ok, Fl.go_next, Fl.go_ret, Fl.fin_next, Fl.fin_ret, slot_some, List.getElem?_cons_zero, List.getElem?_cons_succ, List.set_cons_zero, List.set_cons_succ, put_nm, put_tu, puts_nil, puts_cons, chainK_t, chainK_f, truth_bool, truth_none, truth_int, truth_list, truth_tuple, truth_str, o2_add_i, o2_sub_i, o2_lt_i, o2_le_i, o2_gt_i, o2_ge_i, o2_is_n, o2_is_b, o2_isnot_n, o2_isnot_b, o2_eq_i, o2_eq_s, o2_eq_ns, o2_eq_b, o2_ne_b, o2_idx_t0, o2_idx_t1, o1_len_scr, o1_len_t, o1_len_l, o1_len_s, o1_not_b, o1_tuple_l, o1_list_t, o1_list_l, o1_rev_t, o1_neg_i, o1_int_b, isi_s, isi_i, isi_b, isi_n, isi_t, isi_l, isTy, isNone_n, isNone_b, isNone_i, isNone_s, isNone_t, isNone_l, isBool_b, Bool.not_true, Bool.not_false, eq_self, if_true, if_false, Bool.false_eq_true, reduceIte, beq_self_eq_true, chD, idx_t2, idx_t3, colD, this, if_neg qx]
          refine (seq_if_e (d := .bool false) (by simp only [evalSs, evalS, evalE, evalEs, evalIT, Res.bind_ok, Res.bind_bad, Res.bind_exc, Res.tame_ok, Fl.go_next, Fl.go_ret, Fl.fin_next, Fl.fin_ret, slot_some, List.getElem?_cons_zero, List.getElem?_cons_succ, List.set_cons_zero, List.set_cons_succ, put_nm, put_tu, puts_nil, puts_cons, chainK_t, chainK_f, truth_bool, truth_none, truth_int, truth_list, truth_tuple, truth_str, o2_add_i, o2_sub_i, o2_lt_i, o2_le_i, o2_gt_i, o2_ge_i, o2_is_n, o2_is_b, o2_isnot_n, o2_isnot_b, o2_eq_i, o2_eq_s, o2_eq_ns, o2_eq_b, o2_ne_b, o2_idx_t0, o2_idx_t1, o1_len_scr, o1_len_t, o1_len_l, o1_len_s, o1_not_b, o1_tuple_l, o1_list_t, o1_list_l, o1_rev_t, o1_neg_i, o1_int_b, isi_s, isi_i, isi_b, isi_n, isi_t, isi_l, isTy, isNone_n, isNone_b, isNone_i, isNone_s, isNone_t, isNone_l, isBool_b, Bool.not_true, Bool.not_false, eq_self, if_true, if_false, Bool.false_eq_true, reduceIte, beq_self_eq_true, hw, ha, q', chWord, k1]) rfl ((seq_if_n (d := .bool true) (by simp only [evalSs, evalS, evalE, evalEs, evalIT, Res.bind_ok, Res.bind_bad, Res.bind_exc, Res.tame_ok, Fl.go_next, Fl.go_ret, Fl.fin_next, Fl.fin_ret, slot_some, List.getElem?_cons_zero, List.getElem?_cons_succ, List.set_cons_zero, List.set_cons_succ, put_nm, put_tu, puts_nil, puts_cons, chainK_t, chainK_f, truth_bool, truth_none, truth_int, truth_list, truth_tuple, truth_str, o2_add_i, o2_sub_i, o2_lt_i, o2_le_i, o2_gt_i, o2_ge_i, o2_is_n, o2_is_b, o2_isnot_n, o2_isnot_b, o2_eq_i, o2_eq_s, o2_eq_ns, o2_eq_b, o2_ne_b, o2_idx_t0, o2_idx_t1, o1_len_scr, o1_len_t, o1_len_l, o1_len_s, o1_not_b, o1_tuple_l, o1_list_t, o1_list_l, o1_rev_t, o1_neg_i, o1_int_b, isi_s, isi_i, isi_b, isi_n, isi_t, isi_l, isTy, isNone_n, isNone_b, isNone_i, isNone_s, isNone_t, isNone_l, isBool_b, Bool.not_true, Bool.not_false, eq_self, if_true, if_false, Bool.false_eq_true, reduceIte, beq_self_eq_true, hw, ha, q', chWord, beq_self_eq_true]) rfl ((seq_asg (d := .tuple ((chC (.called a c d) p.2.cols).map colD)) (by simp only [evalSs, evalS, evalE, evalEs, evalIT, Res.bind_ok, Res.bind_bad, Res.bind_exc, Res.tame_ok, Fl.go_next, Fl.go_ret, Fl.fin_next, Fl.fin_ret, slot_some, List.getElem?_cons_zero, List.getElem?_cons_succ, List.set_cons_zero, List.set_cons_succ, put_nm, put_tu, puts_nil, puts_cons, chainK_t, chainK_f, truth_bool, truth_none, truth_int, truth_list, truth_tuple, truth_str, o2_add_i, o2_sub_i, o2_lt_i, o2_le_i, o2_gt_i, o2_ge_i, o2_is_n, o2_is_b, o2_isnot_n, o2_isnot_b, o2_eq_i, o2_eq_s, o2_eq_ns, o2_eq_b, o2_ne_b, o2_idx_t0, o2_idx_t1, o1_len_scr, o1_len_t, o1_len_l, o1_len_s, o1_not_b, o1_tuple_l, o1_list_t, o1_list_l, o1_rev_t, o1_neg_i, o1_int_b, isi_s, isi_i, isi_b, isi_n, isi_t, isi_l, isTy, isNone_n, isNone_b, isNone_i, isNone_s, isNone_t, isNone_l, isBool_b, Bool.not_true, Bool.not_false, eq_self, if_true, if_false, Bool.false_eq_true, reduceIte, beq_self_eq_true, hc])).trans rfl)).trans rfl)).trans ?_
          have ep : chE (.called a c d) p = (p.1, ⟨chC (.called a c d) p.2.cols, p.2.rows⟩) := by rw [chE_else rfl, if_pos q]; rfl
          rw [ep]
          exact fin (p.1, ⟨chC (.called a c d) p.2.cols, p.2.rows⟩)
        | wider a c s m v =>
          have hc : ∀ x, evalE (callF defs (n + 1)) c_law_changed_1 [some (houseD hs), some (chD (.wider a c s m v)), some (.list (acc.map entD)), none, some (.str p.1), some x, some (.tuple (p.2.rows.map PyData.tuple)), none, none, none, none] = .ok (.list ((chR (.wider a c s m v) p.2.rows).map PyData.tuple)) := fun x => by
            unfold c_law_changed_1 chR
            refine comp_map2 p.2.rows PyData.tuple _ _ (by simp only [evalSs, evalS, evalE, evalEs, evalIT, Res.bind_ok, Res.bind_bad, Res.bind_exc, Res.tame_ok, Fl.go_next, Fl.go_ret, Fl.fin_next, Fl.fin_ret, slot_some, List.getElem?_cons_zero, List.getElem?_cons_succ, List.set_cons_zero, List.set_cons_succ, put_nm, put_tu, puts_nil, puts_cons, chainK_t, chainK_f, truth_bool, truth_none, truth_int, truth_list, truth_tuple, truth_str, o2_add_i, o2_sub_i, o2_lt_i, o2_le_i, o2_gt_i, o2_ge_i, o2_is_n, o2_is_b, o2_isnot_n, o2_isnot_b, o2_eq_i, o2_eq_s, o2_eq_ns, o2_eq_b, o2_ne_b, o2_idx_t0, o2_idx_t1, o1_len_scr, o1_len_t, o1_len_l, o1_len_s, o1_not_b, o1_tuple_l, o1_list_t, o1_list_l, o1_rev_t, o1_neg_i, o1_int_b, isi_s, isi_i, isi_b, isi_n, isi_t, isi_l, isTy, isNone_n, isNone_b, isNone_i, isNone_s, isNone_t, isNone_l, isBool_b, Bool.not_true, Bool.not_false, eq_self, if_true, if_false, Bool.false_eq_true, reduceIte, beq_self_eq_true, itemsOf]) fun r hr => ⟨_, by simp only [evalSs, evalS, evalE, evalEs, evalIT, Res.bind_ok, Res.bind_bad, Res.bind_exc, Res.tame_ok, Fl.go_next, Fl.go_ret, Fl.fin_next, Fl.fin_ret, slot_some, List.getElem?_cons_zero, List.getElem?_cons_succ, List.set_cons_zero, List.set_cons_succ, put_nm, put_tu, puts_nil, puts_cons, chainK_t, chainK_f, truth_bool, truth_none, truth_int, truth_list, truth_tuple, truth_str, o2_add_i, o2_sub_i, o2_lt_i, o2_le_i, o2_gt_i, o2_ge_i, o2_is_n, o2_is_b, o2_isnot_n, o2_isnot_b, o2_eq_i, o2_eq_s, o2_eq_ns, o2_eq_b, o2_ne_b, o2_idx_t0, o2_idx_t1, o1_len_scr, o1_len_t, o1_len_l, o1_len_s, o1_not_b, o1_tuple_l, o1_list_t, o1_list_l, o1_rev_t, o1_neg_i, o1_int_b, isi_s, isi_i, isi_b, isi_n, isi_t, isi_l, isTy, isNone_n, isNone_b, isNone_i, isNone_s, isNone_t, isNone_l, isBool_b, Bool.not_true, Bool.not_false, eq_self, if_true, if_false, Bool.false_eq_true, reduceIte, beq_self_eq_true] <;> rfl, ?_⟩
            have s1 : op3 .sl (chD (.wider a c s m v)) (.int 4) .none = .ok (.tuple [v]) := rfl
            have ad : op2 .add (.tuple r) (.tuple [v]) = .ok (.tuple (r ++ [v])) := o2_add_t (by have := (ht p hp).r r hr; simp; omega)
            simp only [evalSs, evalS, evalE, evalEs, evalIT, Res.bind_ok, Res.bind_bad, Res.bind_exc, Res.tame_ok, Fl.go_next, Fl.go_ret, Fl.fin_next, Fl.fin_ret, slot_some, List.getElem?_cons_zero, List.getElem?_cons_succ, List.set_cons_zero, List.set_cons_succ, put_nm, put_tu, puts_nil, puts_cons, chainK_t, chainK_f, truth_bool, truth_none, truth_int, truth_list, truth_tuple, truth_str, o2_add_i, o2_sub_i, o2_lt_i, o2_le_i, o2_gt_i, o2_ge_i, o2_is_n, o2_is_b, o2_isnot_n, o2_isnot_b, o2_eq_i, o2_eq_s, o2_eq_ns, o2_eq_b, o2_ne_b, o2_idx_t0, o2_idx_t1, o1_len_scr, o1_len_t, o1_len_l, o1_len_s, o1_not_b, o1_tuple_l, o1_list_t, o1_list_l, o1_rev_t, o1_neg_i, o1_int_b, isi_s, isi_i, isi_b, isi_n, isi_t, isi_l, isTy, isNone_n, isNone_b, isNone_i, isNone_s, isNone_t, isNone_l, isBool_b, Bool.not_true, Bool.not_false, eq_self, if_true, if_false, Bool.false_eq_true, reduceIte, beq_self_eq_true, s1, ad]
          have s2 : op3 .sl (chD (.wider a c s m v)) (.int 2) (.int 4) = .ok (.tuple [.str c, kindD s m]) := rfl
          have ad : op2 .add (.tuple (p.2.cols.map colD)) (.tuple [.tuple [.str c, kindD s m]]) = .ok (.tuple ((chC (.wider a c s m v) p.2.cols).map colD)) := by
            unfold chC
            rw [List.map_append]
            exact o2_add_t (by have := (ht p hp).c; rw [List.length_map]; simp; omega)
          refine (seq_if_e (d := .bool false) (by simp only [evalSs, evalS, evalE, evalEs, evalIT, Res.bind_ok, Res.bind_bad, Res.bind_exc, Res.tame_ok, Fl.go_next, Fl.go_ret, Fl.fin_next, Fl.fin_ret, slot_some, List.getElem?_cons_zero, List.getElem?_cons_succ, List.set_cons_zero, List.set_cons_succ, put_nm, put_tu, puts_nil, puts_cons, chainK_t, chainK_f, truth_bool, truth_none, truth_int, truth_list, truth_tuple, truth_str, o2_add_i, o2_sub_i, o2_lt_i, o2_le_i, o2_gt_i, o2_ge_i, o2_is_n, o2_is_b, o2_isnot_n, o2_isnot_b, o2_eq_i, o2_eq_s, o2_eq_ns, o2_eq_b, o2_ne_b, o2_idx_t0, o2_idx_t1, o1_len_scr, o1_len_t, o1_len_l, o1_len_s, o1_not_b, o1_tuple_l, o1_list_t, o1_list_l, o1_rev_t, o1_neg_i, o1_int_b, isi_s, isi_i, isi_b, isi_n, isi_t, isi_l, isTy, isNone_n, isNone_b, isNone_i, isNone_s, isNone_t, isNone_l, isBool_b, Bool.not_true, Bool.not_false, eq_self, if_true, if_false, Bool.false_eq_true, reduceIte, beq_self_eq_true, hw, ha, q', chWord, k2]) rfl ((seq_if_e (d := .bool false) (by simp only [evalSs, evalS, evalE, evalEs, evalIT, Res.bind_ok, Res.bind_bad, Res.bind_exc, Res.tame_ok, Fl.go_next, Fl.go_ret, Fl.fin_next, Fl.fin_ret, slot_some, List.getElem?_cons_zero, List.getElem?_cons_succ, List.set_cons_zero, List.set_cons_succ, put_nm, put_tu, puts_nil, puts_cons, chainK_t, chainK_f, truth_bool, truth_none, truth_int, truth_list, truth_tuple, truth_str, o2_add_i, o2_sub_i, o2_lt_i, o2_le_i, o2_gt_i, o2_ge_i, o2_is_n, o2_is_b, o2_isnot_n, o2_isnot_b, o2_eq_i, o2_eq_s, o2_eq_ns, o2_eq_b, o2_ne_b, o2_idx_t0, o2_idx_t1, o1_len_scr, o1_len_t, o1_len_l, o1_len_s, o1_not_b, o1_tuple_l, o1_list_t, o1_list_l, o1_rev_t, o1_neg_i, o1_int_b, isi_s, isi_i, isi_b, isi_n, isi_t, isi_l, isTy, isNone_n, isNone_b, isNone_i, isNone_s, isNone_t, isNone_l, isBool_b, Bool.not_true, Bool.not_false, eq_self, if_true, if_false, Bool.false_eq_true, reduceIte, beq_self_eq_true, hw, ha, q', chWord, k4]) rfl ((seq_if_n (d := .bool true) (by simp only [evalSs, evalS, evalE, evalEs, evalIT, Res.bind_ok, Res.bind_bad, Res.bind_exc, Res.tame_ok, Fl.go_next, Fl.go_ret, Fl.fin_next, Fl.fin_ret, slot_some, List.getElem?_cons_zero, List.getElem?_cons_succ, List.set_cons_zero, List.set_cons_succ, put_nm, put_tu, puts_nil, puts_cons, chainK_t, chainK_f, truth_bool, truth_none, truth_int, truth_list, truth_tuple, truth_str, o2_add_i, o2_sub_i, o2_lt_i, o2_le_i, o2_gt_i, o2_ge_i, o2_is_n, o2_is_b, o2_isnot_n, o2_isnot_b, o2_eq_i, o2_eq_s, o2_eq_ns, o2_eq_b, o2_ne_b, o2_idx_t0, o2_idx_t1, o1_len_scr, o1_len_t, o1_len_l, o1_len_s, o1_not_b, o1_tuple_l, o1_list_t, o1_list_l, o1_rev_t, o1_neg_i, o1_int_b, isi_s, isi_i, isi_b, isi_n, isi_t, isi_l, isTy, isNone_n, isNone_b, isNone_i, isNone_s, isNone_t, isNone_l, isBool_b, Bool.not_true, Bool.not_false, eq_self, if_true, if_false, Bool.false_eq_true, reduceIte, beq_self_eq_true, hw, ha, q', chWord, beq_self_eq_true]) rfl ((seq_asg (d := .tuple ((chC (.wider a c s m v) p.2.cols).map colD)) (by simp only [evalSs, evalS, evalE, evalEs, evalIT, Res.bind_ok, Res.bind_bad, Res.bind_exc, Res.tame_ok, Fl.go_next, Fl.go_ret, Fl.fin_next, Fl.fin_ret, slot_some, List.getElem?_cons_zero, List.getElem?_cons_succ, List.set_cons_zero, List.set_cons_succ, put_nm, put_tu, puts_nil, puts_cons, chainK_t, chainK_f, truth_bool, truth_none, truth_int, truth_list, truth_tuple, truth_str, o2_add_i, o2_sub_i, o2_lt_i, o2_le_i, o2_gt_i, o2_ge_i, o2_is_n, o2_is_b, o2_isnot_n, o2_isnot_b, o2_eq_i, o2_eq_s, o2_eq_ns, o2_eq_b, o2_ne_b, o2_idx_t0, o2_idx_t1, o1_len_scr, o1_len_t, o1_len_l, o1_len_s, o1_not_b, o1_tuple_l, o1_list_t, o1_list_l, o1_rev_t, o1_neg_i, o1_int_b, isi_s, isi_i, isi_b, isi_n, isi_t, isi_l, isTy, isNone_n, isNone_b, isNone_i, isNone_s, isNone_t, isNone_l, isBool_b, Bool.not_true, Bool.not_false, eq_self, if_true, if_false, Bool.false_eq_true, reduceIte, beq_self_eq_true, s2, ad])).trans ((seq_asg (d := .tuple ((chR (.wider a c s m v) p.2.rows).map PyData.tuple)) (by
            have := hc (.tuple ((chC (.wider a c s m v) p.2.cols).map colD))
            simp only [evalSs, evalS, evalE, evalEs, evalIT, Res.bind_ok, Res.bind_bad, Res.bind_exc, Res.tame_ok, Fl.go_next, Fl.go_ret, Fl.fin_next, Fl.fin_ret, slot_some, List.getElem?_cons_zero, List.getElem?_cons_succ, List.set_cons_zero, List.set_cons_succ, put_nm, put_tu, puts_nil, puts_cons, chainK_t, chainK_f, truth_bool, truth_none, truth_int, truth_list, truth_tuple, truth_str, o2_add_i, o2_sub_i, o2_lt_i, o2_le_i, o2_gt_i, o2_ge_i, o2_is_n, o2_is_b, o2_isnot_n, o2_isnot_b, o2_eq_i, o2_eq_s, o2_eq_ns, o2_eq_b, o2_ne_b, o2_idx_t0, o2_idx_t1, o1_len_scr, o1_len_t, o1_len_l, o1_len_s, o1_not_b, o1_tuple_l, o1_list_t, o1_list_l, o1_rev_t, o1_neg_i, o1_int_b, isi_s, isi_i, isi_b, isi_n, isi_t, isi_l, isTy, isNone_n, isNone_b, isNone_i, isNone_s, isNone_t, isNone_l, isBool_b, Bool.not_true, Bool.not_false, eq_self, if_true, if_false, Bool.false_eq_true, reduceIte, beq_self_eq_true, this])).trans rfl))).trans rfl)).trans rfl)).trans ?_
          have ep : chE (.wider a c s m v) p = (p.1, ⟨chC (.wider a c s m v) p.2.cols, chR (.wider a c s m v) p.2.rows⟩) := by rw [chE_else rfl, if_pos q]; rfl
          rw [ep]
          exact fin (p.1, ⟨chC (.wider a c s m v) p.2.cols, chR (.wider a c s m v) p.2.rows⟩)
        | gappy a c =>
          have hc : evalE (callF defs (n + 1)) c_law_changed_2 [some (houseD hs), some (chD (.gappy a c)), some (.list (acc.map entD)), none, some (.str p.1), some (.tuple (p.2.cols.map colD)), some (.tuple (p.2.rows.map PyData.tuple)), none, none, none, none] = .ok (.list ((chC (.gappy a c) p.2.cols).map colD)) := by
            unfold c_law_changed_2 chC
            refine comp_map2 p.2.cols colD _ _ (by simp only [evalSs, evalS, evalE, evalEs, evalIT, Res.bind_ok, Res.bind_bad, Res.bind_exc, Res.tame_ok, Fl.go_next, Fl.go_ret, Fl.fin_next, Fl.fin_ret, slot_some, List.getElem?_cons_zero, List.getElem?_cons_succ, List.set_cons_zero, List.set_cons_succ, put_nm, put_tu, puts_nil, puts_cons, chainK_t, chainK_f, truth_bool, truth_none, truth_int, truth_list, truth_tuple, truth_str, o2_add_i, o2_sub_i, o2_lt_i, o2_le_i, o2_gt_i, o2_ge_i, o2_is_n, o2_is_b, o2_isnot_n, o2_isnot_b, o2_eq_i, o2_eq_s, o2_eq_ns, o2_eq_b, o2_ne_b, o2_idx_t0, o2_idx_t1, o1_len_scr, o1_len_t, o1_len_l, o1_len_s, o1_not_b, o1_tuple_l, o1_list_t, o1_list_l, o1_rev_t, o1_neg_i, o1_int_b, isi_s, isi_i, isi_b, isi_n, isi_t, isi_l, isTy, isNone_n, isNone_b, isNone_i, isNone_s, isNone_t, isNone_l, isBool_b, Bool.not_true, Bool.not_false, eq_self, if_true, if_false, Bool.false_eq_true, reduceIte, beq_self_eq_true, itemsOf]) fun x _ => ⟨_, by simp only [evalSs, evalS, evalE, evalEs, evalIT, Res.bind_ok, Res.bind_bad, Res.bind_exc, Res.tame_ok, Fl.go_next, Fl.go_ret, Fl.fin_next, Fl.fin_ret, slot_some, List.getElem?_cons_zero, List.getElem?_cons_succ, List.set_cons_zero, List.set_cons_succ, put_nm, put_tu, puts_nil, puts_cons, chainK_t, chainK_f, truth_bool, truth_none, truth_int, truth_list, truth_tuple, truth_str, o2_add_i, o2_sub_i, o2_lt_i, o2_le_i, o2_gt_i, o2_ge_i, o2_is_n, o2_is_b, o2_isnot_n, o2_isnot_b, o2_eq_i, o2_eq_s, o2_eq_ns, o2_eq_b, o2_ne_b, o2_idx_t0, o2_idx_t1, o1_len_scr, o1_len_t, o1_len_l, o1_len_s, o1_not_b, o1_tuple_l, o1_list_t, o1_list_l, o1_rev_t, o1_neg_i, o1_int_b, isi_s, isi_i, isi_b, isi_n, isi_t, isi_l, isTy, isNone_n, isNone_b, isNone_i, isNone_s, isNone_t, isNone_l, isBool_b, Bool.not_true, Bool.not_false, eq_self, if_true, if_false, Bool.false_eq_true, reduceIte, beq_self_eq_true, colD] <;> rfl, ?_⟩
            obtain ⟨x, s, m⟩ := x
            cases m <;> simp only [evalSs, evalS, evalE, evalEs, evalIT, Res.bind_ok, Res.bind_bad, Res.bind_exc, Res.tame_ok, Fl.go_next, Fl.go_ret, Fl.fin_next, Fl.fin_ret, slot_some, List.getElem?_cons_zero, List.getElem?_cons_succ, List.set_cons_zero, List.set_cons_succ, put_nm, put_tu, puts_nil, puts_cons, chainK_t, chainK_f, truth_bool, truth_none, truth_int, truth_list, truth_tuple, truth_str, o2_add_i, o2_sub_i, o2_lt_i, o2_le_i, o2_gt_i, o2_ge_i, o2_is_n, o2_is_b, o2_isnot_n, o2_isnot_b, o2_eq_i, o2_eq_s, o2_eq_ns, o2_eq_b, o2_ne_b, o2_idx_t0, o2_idx_t1, o1_len_scr, o1_len_t, o1_len_l, o1_len_s, o1_not_b, o1_tuple_l, o1_list_t, o1_list_l, o1_rev_t, o1_neg_i, o1_int_b, isi_s, isi_i, isi_b, isi_n, isi_t, isi_l, isTy, isNone_n, isNone_b, isNone_i, isNone_s, isNone_t, isNone_l, isBool_b, Bool.not_true, Bool.not_false, eq_self, if_true, if_false, Bool.false_eq_true, reduceIte, beq_self_eq_true, chD, idx_t2, colD, kindD, Bool.false_or, Bool.true_or]
          refine (seq_if_e (d := .bool false) (by simp only [evalSs, evalS, evalE, evalEs, evalIT, Res.bind_ok, Res.bind_bad, Res.bind_exc, Res.tame_ok, Fl.go_next, Fl.go_ret, Fl.fin_next, Fl.fin_ret, slot_some, List.getElem?_cons_zero, List.getElem?_cons_succ, List.set_cons_zero, List.set_cons_succ, put_nm, put_tu, puts_nil, puts_cons, chainK_t, chainK_f, truth_bool, truth_none, truth_int, truth_list, truth_tuple, truth_str, o2_add_i, o2_sub_i, o2_lt_i, o2_le_i, o2_gt_i, o2_ge_i, o2_is_n, o2_is_b, o2_isnot_n, o2_isnot_b, o2_eq_i, o2_eq_s, o2_eq_ns, o2_eq_b, o2_ne_b, o2_idx_t0, o2_idx_t1, o1_len_scr, o1_len_t, o1_len_l, o1_len_s, o1_not_b, o1_tuple_l, o1_list_t, o1_list_l, o1_rev_t, o1_neg_i, o1_int_b, isi_s, isi_i, isi_b, isi_n, isi_t, isi_l, isTy, isNone_n, isNone_b, isNone_i, isNone_s, isNone_t, isNone_l, isBool_b, Bool.not_true, Bool.not_false, eq_self, if_true, if_false, Bool.false_eq_true, reduceIte, beq_self_eq_true, hw, ha, q', chWord, k3]) rfl ((seq_if_e (d := .bool false) (by simp only [evalSs, evalS, evalE, evalEs, evalIT, Res.bind_ok, Res.bind_bad, Res.bind_exc, Res.tame_ok, Fl.go_next, Fl.go_ret, Fl.fin_next, Fl.fin_ret, slot_some, List.getElem?_cons_zero, List.getElem?_cons_succ, List.set_cons_zero, List.set_cons_succ, put_nm, put_tu, puts_nil, puts_cons, chainK_t, chainK_f, truth_bool, truth_none, truth_int, truth_list, truth_tuple, truth_str, o2_add_i, o2_sub_i, o2_lt_i, o2_le_i, o2_gt_i, o2_ge_i, o2_is_n, o2_is_b, o2_isnot_n, o2_isnot_b, o2_eq_i, o2_eq_s, o2_eq_ns, o2_eq_b, o2_ne_b, o2_idx_t0, o2_idx_t1, o1_len_scr, o1_len_t, o1_len_l, o1_len_s, o1_not_b, o1_tuple_l, o1_list_t, o1_list_l, o1_rev_t, o1_neg_i, o1_int_b, isi_s, isi_i, isi_b, isi_n, isi_t, isi_l, isTy, isNone_n, isNone_b, isNone_i, isNone_s, isNone_t, isNone_l, isBool_b, Bool.not_true, Bool.not_false, eq_self, if_true, if_false, Bool.false_eq_true, reduceIte, beq_self_eq_true, hw, ha, q', chWord, k5]) rfl ((seq_if_e (d := .bool false) (by simp only [evalSs, evalS, evalE, evalEs, evalIT, Res.bind_ok, Res.bind_bad, Res.bind_exc, Res.tame_ok, Fl.go_next, Fl.go_ret, Fl.fin_next, Fl.fin_ret, slot_some, List.getElem?_cons_zero, List.getElem?_cons_succ, List.set_cons_zero, List.set_cons_succ, put_nm, put_tu, puts_nil, puts_cons, chainK_t, chainK_f, truth_bool, truth_none, truth_int, truth_list, truth_tuple, truth_str, o2_add_i, o2_sub_i, o2_lt_i, o2_le_i, o2_gt_i, o2_ge_i, o2_is_n, o2_is_b, o2_isnot_n, o2_isnot_b, o2_eq_i, o2_eq_s, o2_eq_ns, o2_eq_b, o2_ne_b, o2_idx_t0, o2_idx_t1, o1_len_scr, o1_len_t, o1_len_l, o1_len_s, o1_not_b, o1_tuple_l, o1_list_t, o1_list_l, o1_rev_t, o1_neg_i, o1_int_b, isi_s, isi_i, isi_b, isi_n, isi_t, isi_l, isTy, isNone_n, isNone_b, isNone_i, isNone_s, isNone_t, isNone_l, isBool_b, Bool.not_true, Bool.not_false, eq_self, if_true, if_false, Bool.false_eq_true, reduceIte, beq_self_eq_true, hw, ha, q', chWord, k6]) rfl ((seq_if_n (d := .bool true) (by simp only [evalSs, evalS, evalE, evalEs, evalIT, Res.bind_ok, Res.bind_bad, Res.bind_exc, Res.tame_ok, Fl.go_next, Fl.go_ret, Fl.fin_next, Fl.fin_ret, slot_some, List.getElem?_cons_zero, List.getElem?_cons_succ, List.set_cons_zero, List.set_cons_succ, put_nm, put_tu, puts_nil, puts_cons, chainK_t, chainK_f, truth_bool, truth_none, truth_int, truth_list, truth_tuple, truth_str, o2_add_i, o2_sub_i, o2_lt_i, o2_le_i, o2_gt_i, o2_ge_i, o2_is_n, o2_is_b, o2_isnot_n, o2_isnot_b, o2_eq_i, o2_eq_s, o2_eq_ns, o2_eq_b, o2_ne_b, o2_idx_t0, o2_idx_t1, o1_len_scr, o1_len_t, o1_len_l, o1_len_s, o1_not_b, o1_tuple_l, o1_list_t, o1_list_l, o1_rev_t, o1_neg_i, o1_int_b, isi_s, isi_i, isi_b, isi_n, isi_t, isi_l, isTy, isNone_n, isNone_b, isNone_i, isNone_s, isNone_t, isNone_l, isBool_b, Bool.not_true, Bool.not_false, eq_self, if_true, if_false, Bool.false_eq_true, reduceIte, beq_self_eq_true, ha, q']) rfl ((seq_asg (d := .tuple ((chC (.gappy a c) p.2.cols).map colD)) (by simp only [evalSs, evalS, evalE, evalEs, evalIT, Res.bind_ok, Res.bind_bad, Res.bind_exc, Res.tame_ok, Fl.go_next, Fl.go_ret, Fl.fin_next, Fl.fin_ret, slot_some, List.getElem?_cons_zero, List.getElem?_cons_succ, List.set_cons_zero, List.set_cons_succ, put_nm, put_tu, puts_nil, puts_cons, chainK_t, chainK_f, truth_bool, truth_none, truth_int, truth_list, truth_tuple, truth_str, o2_add_i, o2_sub_i, o2_lt_i, o2_le_i, o2_gt_i, o2_ge_i, o2_is_n, o2_is_b, o2_isnot_n, o2_isnot_b, o2_eq_i, o2_eq_s, o2_eq_ns, o2_eq_b, o2_ne_b, o2_idx_t0, o2_idx_t1, o1_len_scr, o1_len_t, o1_len_l, o1_len_s, o1_not_b, o1_tuple_l, o1_list_t, o1_list_l, o1_rev_t, o1_neg_i, o1_int_b, isi_s, isi_i, isi_b, isi_n, isi_t, isi_l, isTy, isNone_n, isNone_b, isNone_i, isNone_s, isNone_t, isNone_l, isBool_b, Bool.not_true, Bool.not_false, eq_self, if_true, if_false, Bool.false_eq_true, reduceIte, beq_self_eq_true, hc])).trans rfl)).trans rfl)).trans rfl)).trans rfl)).trans ?_
          have ep : chE (.gappy a c) p = (p.1, ⟨chC (.gappy a c) p.2.cols, p.2.rows⟩) := by rw [chE_else rfl, if_pos q]; rfl
          rw [ep]
          exact fin (p.1, ⟨chC (.gappy a c) p.2.cols, p.2.rows⟩)
      · have q' : (p.1 == chAt h) = false := beq_eq_false_iff_ne.mpr q
        refine (seq_if_e (d := .bool false) (by simp only [evalSs, evalS, evalE, evalEs, evalIT, Res.bind_ok, Res.bind_bad, Res.bind_exc, Res.tame_ok, Fl.go_next, Fl.go_ret, Fl.fin_next, Fl.fin_ret, slot_some, List.getElem?_cons_zero, List.getElem?_cons_succ, List.set_cons_zero, List.set_cons_succ, put_nm, put_tu, puts_nil, puts_cons, chainK_t, chainK_f, truth_bool, truth_none, truth_int, truth_list, truth_tuple, truth_str, o2_add_i, o2_sub_i, o2_lt_i, o2_le_i, o2_gt_i, o2_ge_i, o2_is_n, o2_is_b, o2_isnot_n, o2_isnot_b, o2_eq_i, o2_eq_s, o2_eq_ns, o2_eq_b, o2_ne_b, o2_idx_t0, o2_idx_t1, o1_len_scr, o1_len_t, o1_len_l, o1_len_s, o1_not_b, o1_tuple_l, o1_list_t, o1_list_l, o1_rev_t, o1_neg_i, o1_int_b, isi_s, isi_i, isi_b, isi_n, isi_t, isi_l, isTy, isNone_n, isNone_b, isNone_i, isNone_s, isNone_t, isNone_l, isBool_b, Bool.not_true, Bool.not_false, eq_self, if_true, if_false, Bool.false_eq_true, reduceIte, beq_self_eq_true, ha, q']) rfl ((seq_if_e (d := .bool false) (by simp only [evalSs, evalS, evalE, evalEs, evalIT, Res.bind_ok, Res.bind_bad, Res.bind_exc, Res.tame_ok, Fl.go_next, Fl.go_ret, Fl.fin_next, Fl.fin_ret, slot_some, List.getElem?_cons_zero, List.getElem?_cons_succ, List.set_cons_zero, List.set_cons_succ, put_nm, put_tu, puts_nil, puts_cons, chainK_t, chainK_f, truth_bool, truth_none, truth_int, truth_list, truth_tuple, truth_str, o2_add_i, o2_sub_i, o2_lt_i, o2_le_i, o2_gt_i, o2_ge_i, o2_is_n, o2_is_b, o2_isnot_n, o2_isnot_b, o2_eq_i, o2_eq_s, o2_eq_ns, o2_eq_b, o2_ne_b, o2_idx_t0, o2_idx_t1, o1_len_scr, o1_len_t, o1_len_l, o1_len_s, o1_not_b, o1_tuple_l, o1_list_t, o1_list_l, o1_rev_t, o1_neg_i, o1_int_b, isi_s, isi_i, isi_b, isi_n, isi_t, isi_l, isTy, isNone_n, isNone_b, isNone_i, isNone_s, isNone_t, isNone_l, isBool_b, Bool.not_true, Bool.not_false, eq_self, if_true, if_false, Bool.false_eq_true, reduceIte, beq_self_eq_true, ha, q']) rfl ((seq_if_e (d := .bool false) (by simp only [evalSs, evalS, evalE, evalEs, evalIT, Res.bind_ok, Res.bind_bad, Res.bind_exc, Res.tame_ok, Fl.go_next, Fl.go_ret, Fl.fin_next, Fl.fin_ret, slot_some, List.getElem?_cons_zero, List.getElem?_cons_succ, List.set_cons_zero, List.set_cons_succ, put_nm, put_tu, puts_nil, puts_cons, chainK_t, chainK_f, truth_bool, truth_none, truth_int, truth_list, truth_tuple, truth_str, o2_add_i, o2_sub_i, o2_lt_i, o2_le_i, o2_gt_i, o2_ge_i, o2_is_n, o2_is_b, o2_isnot_n, o2_isnot_b, o2_eq_i, o2_eq_s, o2_eq_ns, o2_eq_b, o2_ne_b, o2_idx_t0, o2_idx_t1, o1_len_scr, o1_len_t, o1_len_l, o1_len_s, o1_not_b, o1_tuple_l, o1_list_t, o1_list_l, o1_rev_t, o1_neg_i, o1_int_b, isi_s, isi_i, isi_b, isi_n, isi_t, isi_l, isTy, isNone_n, isNone_b, isNone_i, isNone_s, isNone_t, isNone_l, isBool_b, Bool.not_true, Bool.not_false, eq_self, if_true, if_false, Bool.false_eq_true, reduceIte, beq_self_eq_true, ha, q']) rfl ((seq_if_f (d := .bool false) (by simp only [evalSs, evalS, evalE, evalEs, evalIT, Res.bind_ok, Res.bind_bad, Res.bind_exc, Res.tame_ok, Fl.go_next, Fl.go_ret, Fl.fin_next, Fl.fin_ret, slot_some, List.getElem?_cons_zero, List.getElem?_cons_succ, List.set_cons_zero, List.set_cons_succ, put_nm, put_tu, puts_nil, puts_cons, chainK_t, chainK_f, truth_bool, truth_none, truth_int, truth_list, truth_tuple, truth_str, o2_add_i, o2_sub_i, o2_lt_i, o2_le_i, o2_gt_i, o2_ge_i, o2_is_n, o2_is_b, o2_isnot_n, o2_isnot_b, o2_eq_i, o2_eq_s, o2_eq_ns, o2_eq_b, o2_ne_b, o2_idx_t0, o2_idx_t1, o1_len_scr, o1_len_t, o1_len_l, o1_len_s, o1_not_b, o1_tuple_l, o1_list_t, o1_list_l, o1_rev_t, o1_neg_i, o1_int_b, isi_s, isi_i, isi_b, isi_n, isi_t, isi_l, isTy, isNone_n, isNone_b, isNone_i, isNone_s, isNone_t, isNone_l, isBool_b, Bool.not_true, Bool.not_false, eq_self, if_true, if_false, Bool.false_eq_true, reduceIte, beq_self_eq_true, ha, q']) rfl rfl).trans rfl)).trans rfl)).trans rfl)).trans ?_
        have ep : chE h p = p := by
          cases h with
          | moved a b => rw [chE_moved, if_neg (show ¬ p.1 = a from q)]
          | _ => rw [chE_else rfl, if_neg q]
        rw [ep]
        exact fin _) ⟨none, none, none, rfl⟩
  rw [List.nil_append] at l
  have c5 : evalE (callF defs (n + 1)) c_law_changed_5 [some (houseD hs), some (chD h), some (.list ((hs.map (chE h)).map entD)), none, o4, o5, o6, none, none, none, none] = .ok (.list (((hs.map (chE h)).map (·.1)).map PyData.str)) := by
    unfold c_law_changed_5
    refine comp_map2 (hs.map (chE h)) entD _ _ (by simp only [evalSs, evalS, evalE, evalEs, evalIT, Res.bind_ok, Res.bind_bad, Res.bind_exc, Res.tame_ok, Fl.go_next, Fl.go_ret, Fl.fin_next, Fl.fin_ret, slot_some, List.getElem?_cons_zero, List.getElem?_cons_succ, List.set_cons_zero, List.set_cons_succ, put_nm, put_tu, puts_nil, puts_cons, chainK_t, chainK_f, truth_bool, truth_none, truth_int, truth_list, truth_tuple, truth_str, o2_add_i, o2_sub_i, o2_lt_i, o2_le_i, o2_gt_i, o2_ge_i, o2_is_n, o2_is_b, o2_isnot_n, o2_isnot_b, o2_eq_i, o2_eq_s, o2_eq_ns, o2_eq_b, o2_ne_b, o2_idx_t0, o2_idx_t1, o1_len_scr, o1_len_t, o1_len_l, o1_len_s, o1_not_b, o1_tuple_l, o1_list_t, o1_list_l, o1_rev_t, o1_neg_i, o1_int_b, isi_s, isi_i, isi_b, isi_n, isi_t, isi_l, isTy, isNone_n, isNone_b, isNone_i, isNone_s, isNone_t, isNone_l, isBool_b, Bool.not_true, Bool.not_false, eq_self, if_true, if_false, Bool.false_eq_true, reduceIte, beq_self_eq_true, itemsOf]) fun p _ => ⟨_, by simp only [evalSs, evalS, evalE, evalEs, evalIT, Res.bind_ok, Res.bind_bad, Res.bind_exc, Res.tame_ok, Fl.go_next, Fl.go_ret, Fl.fin_next, Fl.fin_ret, slot_some, List.getElem?_cons_zero, List.getElem?_cons_succ, List.set_cons_zero, List.set_cons_succ, put_nm, put_tu, puts_nil, puts_cons, chainK_t, chainK_f, truth_bool, truth_none, truth_int, truth_list, truth_tuple, truth_str, o2_add_i, o2_sub_i, o2_lt_i, o2_le_i, o2_gt_i, o2_ge_i, o2_is_n, o2_is_b, o2_isnot_n, o2_isnot_b, o2_eq_i, o2_eq_s, o2_eq_ns, o2_eq_b, o2_ne_b, o2_idx_t0, o2_idx_t1, o1_len_scr, o1_len_t, o1_len_l, o1_len_s, o1_not_b, o1_tuple_l, o1_list_t, o1_list_l, o1_rev_t, o1_neg_i, o1_int_b, isi_s, isi_i, isi_b, isi_n, isi_t, isi_l, isTy, isNone_n, isNone_b, isNone_i, isNone_s, isNone_t, isNone_l, isBool_b, Bool.not_true, Bool.not_false, eq_self, if_true, if_false, Bool.false_eq_true, reduceIte, beq_self_eq_true, entD] <;> rfl, ?_⟩
    simp only [evalSs, evalS, evalE, evalEs, evalIT, Res.bind_ok, Res.bind_bad, Res.bind_exc, Res.tame_ok, Fl.go_next, Fl.go_ret, Fl.fin_next, Fl.fin_ret, slot_some, List.getElem?_cons_zero, List.getElem?_cons_succ, List.set_cons_zero, List.set_cons_succ, put_nm, put_tu, puts_nil, puts_cons, chainK_t, chainK_f, truth_bool, truth_none, truth_int, truth_list, truth_tuple, truth_str, o2_add_i, o2_sub_i, o2_lt_i, o2_le_i, o2_gt_i, o2_ge_i, o2_is_n, o2_is_b, o2_isnot_n, o2_isnot_b, o2_eq_i, o2_eq_s, o2_eq_ns, o2_eq_b, o2_ne_b, o2_idx_t0, o2_idx_t1, o1_len_scr, o1_len_t, o1_len_l, o1_len_s, o1_not_b, o1_tuple_l, o1_list_t, o1_list_l, o1_rev_t, o1_neg_i, o1_int_b, isi_s, isi_i, isi_b, isi_n, isi_t, isi_l, isTy, isNone_n, isNone_b, isNone_i, isNone_s, isNone_t, isNone_l, isBool_b, Bool.not_true, Bool.not_false, eq_self, if_true, if_false, Bool.false_eq_true, reduceIte, beq_self_eq_true]
  have st := sorted_strs ((hs.map (chE h)).map (·.1)) (by rw [List.length_map, List.length_map]; omega)
  rw [ris_names] at st
  have hd := dict_house _ nd
  have c6 : evalE (callF defs (n + 1)) c_law_changed_6 [some (houseD hs), some (chD h), some (.list ((hs.map (chE h)).map entD)), some (.list (((risB (hs.map (chE h))).map (·.1)).map PyData.str)), o4, o5, o6, none, none, none, none] = .ok (.list ((chHs h hs).map entD)) := by
    unfold c_law_changed_6
    refine comp_map (chHs h hs) (fun p => .str p.1) entD (by simp only [evalSs, evalS, evalE, evalEs, evalIT, Res.bind_ok, Res.bind_bad, Res.bind_exc, Res.tame_ok, Fl.go_next, Fl.go_ret, Fl.fin_next, Fl.fin_ret, slot_some, List.getElem?_cons_zero, List.getElem?_cons_succ, List.set_cons_zero, List.set_cons_succ, put_nm, put_tu, puts_nil, puts_cons, chainK_t, chainK_f, truth_bool, truth_none, truth_int, truth_list, truth_tuple, truth_str, o2_add_i, o2_sub_i, o2_lt_i, o2_le_i, o2_gt_i, o2_ge_i, o2_is_n, o2_is_b, o2_isnot_n, o2_isnot_b, o2_eq_i, o2_eq_s, o2_eq_ns, o2_eq_b, o2_ne_b, o2_idx_t0, o2_idx_t1, o1_len_scr, o1_len_t, o1_len_l, o1_len_s, o1_not_b, o1_tuple_l, o1_list_t, o1_list_l, o1_rev_t, o1_neg_i, o1_int_b, isi_s, isi_i, isi_b, isi_n, isi_t, isi_l, isTy, isNone_n, isNone_b, isNone_i, isNone_s, isNone_t, isNone_l, isBool_b, Bool.not_true, Bool.not_false, eq_self, if_true, if_false, Bool.false_eq_true, reduceIte, beq_self_eq_true, itemsOf, List.map_map] <;> rfl) fun p hp => ⟨_, by simp only [evalSs, evalS, evalE, evalEs, evalIT, Res.bind_ok, Res.bind_bad, Res.bind_exc, Res.tame_ok, Fl.go_next, Fl.go_ret, Fl.fin_next, Fl.fin_ret, slot_some, List.getElem?_cons_zero, List.getElem?_cons_succ, List.set_cons_zero, List.set_cons_succ, put_nm, put_tu, puts_nil, puts_cons, chainK_t, chainK_f, truth_bool, truth_none, truth_int, truth_list, truth_tuple, truth_str, o2_add_i, o2_sub_i, o2_lt_i, o2_le_i, o2_gt_i, o2_ge_i, o2_is_n, o2_is_b, o2_isnot_n, o2_isnot_b, o2_eq_i, o2_eq_s, o2_eq_ns, o2_eq_b, o2_ne_b, o2_idx_t0, o2_idx_t1, o1_len_scr, o1_len_t, o1_len_l, o1_len_s, o1_not_b, o1_tuple_l, o1_list_t, o1_list_l, o1_rev_t, o1_neg_i, o1_int_b, isi_s, isi_i, isi_b, isi_n, isi_t, isi_l, isTy, isNone_n, isNone_b, isNone_i, isNone_s, isNone_t, isNone_l, isBool_b, Bool.not_true, Bool.not_false, eq_self, if_true, if_false, Bool.false_eq_true, reduceIte, beq_self_eq_true] <;> rfl, ?_⟩
    have hp' : p ∈ hs.map (chE h) := (risB_perm _).mem_iff.mp hp
    have := dict_ent nd hp'
    simp only [evalSs, evalS, evalE, evalEs, evalIT, Res.bind_ok, Res.bind_bad, Res.bind_exc, Res.tame_ok, Fl.go_next, Fl.go_ret, Fl.fin_next, Fl.fin_ret, slot_some, List.getElem?_cons_zero, List.getElem?_cons_succ, List.set_cons_zero, List.set_cons_succ, put_nm, put_tu, puts_nil, puts_cons, chainK_t, chainK_f, truth_bool, truth_none, truth_int, truth_list, truth_tuple, truth_str, o2_add_i, o2_sub_i, o2_lt_i, o2_le_i, o2_gt_i, o2_ge_i, o2_is_n, o2_is_b, o2_isnot_n, o2_isnot_b, o2_eq_i, o2_eq_s, o2_eq_ns, o2_eq_b, o2_ne_b, o2_idx_t0, o2_idx_t1, o1_len_scr, o1_len_t, o1_len_l, o1_len_s, o1_not_b, o1_tuple_l, o1_list_t, o1_list_l, o1_rev_t, o1_neg_i, o1_int_b, isi_s, isi_i, isi_b, isi_n, isi_t, isi_l, isTy, isNone_n, isNone_b, isNone_i, isNone_s, isNone_t, isNone_l, isBool_b, Bool.not_true, Bool.not_false, eq_self, if_true, if_false, Bool.false_eq_true, reduceIte, beq_self_eq_true, hd, this, entD]
  refine fin_of (seq_next (e := [some (houseD hs), some (chD h), some (.list []), none, none, none, none, none, none, none, none]) rfl ((seq_for (by simp only [evalSs, evalS, evalE, evalEs, evalIT, Res.bind_ok, Res.bind_bad, Res.bind_exc, Res.tame_ok, Fl.go_next, Fl.go_ret, Fl.fin_next, Fl.fin_ret, slot_some, List.getElem?_cons_zero, List.getElem?_cons_succ, List.set_cons_zero, List.set_cons_succ, put_nm, put_tu, puts_nil, puts_cons, chainK_t, chainK_f, truth_bool, truth_none, truth_int, truth_list, truth_tuple, truth_str, o2_add_i, o2_sub_i, o2_lt_i, o2_le_i, o2_gt_i, o2_ge_i, o2_is_n, o2_is_b, o2_isnot_n, o2_isnot_b, o2_eq_i, o2_eq_s, o2_eq_ns, o2_eq_b, o2_ne_b, o2_idx_t0, o2_idx_t1, o1_len_scr, o1_len_t, o1_len_l, o1_len_s, o1_not_b, o1_tuple_l, o1_list_t, o1_list_l, o1_rev_t, o1_neg_i, o1_int_b, isi_s, isi_i, isi_b, isi_n, isi_t, isi_l, isTy, isNone_n, isNone_b, isNone_i, isNone_s, isNone_t, isNone_l, isBool_b, Bool.not_true, Bool.not_false, eq_self, if_true, if_false, Bool.false_eq_true, reduceIte, beq_self_eq_true, houseD, itemsOf] <;> rfl) l).trans ?_))
  have last : evalSs (callF defs (n + 1)) (.cons (.asg (.nm 3) (.o1 .sorted c_law_changed_5)) (.cons (.ret (.o1 .tuple c_law_changed_6)) .nil)) [some (houseD hs), some (chD h), some (.list ((hs.map (chE h)).map entD)), none, o4, o5, o6, none, none, none, none] = .ok (.ret (houseD (chHs h hs))) :=
    (seq_asg (by simp only [evalSs, evalS, evalE, evalEs, evalIT, Res.bind_ok, Res.bind_bad, Res.bind_exc, Res.tame_ok, Fl.go_next, Fl.go_ret, Fl.fin_next, Fl.fin_ret, slot_some, List.getElem?_cons_zero, List.getElem?_cons_succ, List.set_cons_zero, List.set_cons_succ, put_nm, put_tu, puts_nil, puts_cons, chainK_t, chainK_f, truth_bool, truth_none, truth_int, truth_list, truth_tuple, truth_str, o2_add_i, o2_sub_i, o2_lt_i, o2_le_i, o2_gt_i, o2_ge_i, o2_is_n, o2_is_b, o2_isnot_n, o2_isnot_b, o2_eq_i, o2_eq_s, o2_eq_ns, o2_eq_b, o2_ne_b, o2_idx_t0, o2_idx_t1, o1_len_scr, o1_len_t, o1_len_l, o1_len_s, o1_not_b, o1_tuple_l, o1_list_t, o1_list_l, o1_rev_t, o1_neg_i, o1_int_b, isi_s, isi_i, isi_b, isi_n, isi_t, isi_l, isTy, isNone_n, isNone_b, isNone_i, isNone_s, isNone_t, isNone_l, isBool_b, Bool.not_true, Bool.not_false, eq_self, if_true, if_false, Bool.false_eq_true, reduceIte, beq_self_eq_true, c5, st] <;> rfl)).trans (seq_ret (by simp only [evalSs, evalS, evalE, evalEs, evalIT, Res.bind_ok, Res.bind_bad, Res.bind_exc, Res.tame_ok, Fl.go_next, Fl.go_ret, Fl.fin_next, Fl.fin_ret, slot_some, List.getElem?_cons_zero, List.getElem?_cons_succ, List.set_cons_zero, List.set_cons_succ, put_nm, put_tu, puts_nil, puts_cons, chainK_t, chainK_f, truth_bool, truth_none, truth_int, truth_list, truth_tuple, truth_str, o2_add_i, o2_sub_i, o2_lt_i, o2_le_i, o2_gt_i, o2_ge_i, o2_is_n, o2_is_b, o2_isnot_n, o2_isnot_b, o2_eq_i, o2_eq_s, o2_eq_ns, o2_eq_b, o2_ne_b, o2_idx_t0, o2_idx_t1, o1_len_scr, o1_len_t, o1_len_l, o1_len_s, o1_not_b, o1_tuple_l, o1_list_t, o1_list_l, o1_rev_t, o1_neg_i, o1_int_b, isi_s, isi_i, isi_b, isi_n, isi_t, isi_l, isTy, isNone_n, isNone_b, isNone_i, isNone_s, isNone_t, isNone_l, isBool_b, Bool.not_true, Bool.not_false, eq_self, if_true, if_false, Bool.false_eq_true, reduceIte, beq_self_eq_true, c6] <;> rfl))
  exact pub_ret last
/-! drawn changes -/
def fresh5 : List Str := [w_fresh, w_aaaaaa, w_brandx, w_newone, w_yet]
def moved5 : List Str := [w_aa, w_pp, w_zz, w_yy, w_qq]
def pqr : List Str := [w_p, w_q, w_r]
def ChOk : Ch → Prop
  | .moved a b => a ∈ pqr ∧ b ∈ moved5
  | .called _ _ d => d ∈ fresh5
  | .wider _ c s m v => c ∈ fresh5 ∧ s ∈ sorts3 ∧ VOk (c, s, m) v
  | .gappy _ _ => True
theorem fresh_new : ∀ x ∈ fresh5, x ∉ names7 := by decide +kernel
theorem moved_new : ∀ x ∈ moved5, x ∉ pqr := by decide +kernel
theorem filter_all {α : Type} {p : α → Bool} {l : List α} (h : ∀ x ∈ l, p x = true) : l.filter p = l := List.filter_eq_self.mpr h
theorem change_drawn (n : Nat) (c : Int) (a b d : Tb) (ga : GoodT a) (gb : GoodT b) (gd : GoodT d) : ∃ h, ChOk h ∧ callF defs (n + 5) F.law_change [.int c, houseD [(w_p, a), (w_q, b), (w_r, d)]] = .ok (chD h) := by
  rw [u_law_change]
  generalize hhs : [(w_p, a), (w_q, b), (w_r, d)] = hs
  have gs : ∀ p ∈ hs, GoodT p.2 := fun p hp => by
    subst hhs
    simp only [List.mem_cons, List.not_mem_nil, or_false] at hp
    rcases hp with rfl | rfl | rfl
    · exact ga
    · exact gb
    · exact gd
  have ns : hs.map (·.1) = pqr := by subst hhs; rfl
  have l3 : hs.length = 3 := by subst hhs; rfl
  clear hhs
  have m1 : callF defs (n + 4) F.law_mix [.int c, .int 9521, .int 4] = .ok (.int (mix c 9521 4)) := mix_eq (n + 3) _ _ _ (by omega) (by omega) (by omega)
  have m2 : callF defs (n + 4) F.law_mix [.int c, .int 9511, .int 3] = .ok (.int (mix c 9511 3)) := mix_eq (n + 3) _ _ _ (by omega) (by omega) (by omega)
  have m4 : callF defs (n + 4) F.law_mix [.int c, .int 9491, .int 2] = .ok (.int (mix c 9491 2)) := mix_eq (n + 3) _ _ _ (by omega) (by omega) (by omega)
  have m5 : callF defs (n + 4) F.law_mix [.int c, .int 9479, .int 2] = .ok (.int (mix c 9479 2)) := mix_eq (n + 3) _ _ _ (by omega) (by omega) (by omega)
  obtain ⟨r1, r2⟩ := mix_range c 9511 (m := 3) (by omega)
  obtain ⟨x, hx, ix, _⟩ := atI_in (xs := hs.map entD) (i := mix c 9511 3) r1 (by rw [List.length_map, l3]; exact r2)
  obtain ⟨p, hp, rfl⟩ := List.mem_map.mp hx
  have ix : op2 .idx (houseD hs) (.int (mix c 9511 3)) = .ok (entD p) := o2_idx_t ix
  have gp := gs p hp
  have pp : p.1 ∈ pqr := by rw [← ns]; exact List.mem_map.mpr ⟨p, hp, rfl⟩
  let E : Option D → Option D → Option D → Option D → Option D → Option D → En := fun o2 o3 o4 o5 o6 o9 => [some (.int c), some (houseD hs), o2, o3, o4, o5, o6, some (.str p.1), some (tabD p.2), o9, none, none, none]
  have c0 : evalE (callF defs (n + 4)) c_law_change_0 (E (some (.int (mix c 9521 4))) none none none none none) = .ok (.list ((p.2.cols.map (·.1)).map PyData.str)) := by
    unfold c_law_change_0
    refine comp_map2 p.2.cols colD _ _ (by simp only [E, tabD]; simp only [evalSs, evalS, evalE, evalEs, evalIT, Res.bind_ok, Res.bind_bad, Res.bind_exc, Res.tame_ok, Fl.go_next, Fl.go_ret, Fl.fin_next, Fl.fin_ret, slot_some, List.getElem?_cons_zero, List.getElem?_cons_succ, List.set_cons_zero, List.set_cons_succ, put_nm, put_tu, puts_nil, puts_cons, chainK_t, chainK_f, truth_bool, truth_none, truth_int, truth_list, truth_tuple, truth_str, o2_add_i, o2_sub_i, o2_lt_i, o2_le_i, o2_gt_i, o2_ge_i, o2_is_n, o2_is_b, o2_isnot_n, o2_isnot_b, o2_eq_i, o2_eq_s, o2_eq_ns, o2_eq_b, o2_ne_b, o2_idx_t0, o2_idx_t1, o1_len_scr, o1_len_t, o1_len_l, o1_len_s, o1_not_b, o1_tuple_l, o1_list_t, o1_list_l, o1_rev_t, o1_neg_i, o1_int_b, isi_s, isi_i, isi_b, isi_n, isi_t, isi_l, isTy, isNone_n, isNone_b, isNone_i, isNone_s, isNone_t, isNone_l, isBool_b, Bool.not_true, Bool.not_false, eq_self, if_true, if_false, Bool.false_eq_true, reduceIte, beq_self_eq_true, itemsOf]) fun q _ => ⟨_, by simp only [E]; simp only [evalSs, evalS, evalE, evalEs, evalIT, Res.bind_ok, Res.bind_bad, Res.bind_exc, Res.tame_ok, Fl.go_next, Fl.go_ret, Fl.fin_next, Fl.fin_ret, slot_some, List.getElem?_cons_zero, List.getElem?_cons_succ, List.set_cons_zero, List.set_cons_succ, put_nm, put_tu, puts_nil, puts_cons, chainK_t, chainK_f, truth_bool, truth_none, truth_int, truth_list, truth_tuple, truth_str, o2_add_i, o2_sub_i, o2_lt_i, o2_le_i, o2_gt_i, o2_ge_i, o2_is_n, o2_is_b, o2_isnot_n, o2_isnot_b, o2_eq_i, o2_eq_s, o2_eq_ns, o2_eq_b, o2_ne_b, o2_idx_t0, o2_idx_t1, o1_len_scr, o1_len_t, o1_len_l, o1_len_s, o1_not_b, o1_tuple_l, o1_list_t, o1_list_l, o1_rev_t, o1_neg_i, o1_int_b, isi_s, isi_i, isi_b, isi_n, isi_t, isi_l, isTy, isNone_n, isNone_b, isNone_i, isNone_s, isNone_t, isNone_l, isBool_b, Bool.not_true, Bool.not_false, eq_self, if_true, if_false, Bool.false_eq_true, reduceIte, beq_self_eq_true, colD] <;> rfl, ?_⟩
    simp only [evalSs, evalS, evalE, evalEs, evalIT, Res.bind_ok, Res.bind_bad, Res.bind_exc, Res.tame_ok, Fl.go_next, Fl.go_ret, Fl.fin_next, Fl.fin_ret, slot_some, List.getElem?_cons_zero, List.getElem?_cons_succ, List.set_cons_zero, List.set_cons_succ, put_nm, put_tu, puts_nil, puts_cons, chainK_t, chainK_f, truth_bool, truth_none, truth_int, truth_list, truth_tuple, truth_str, o2_add_i, o2_sub_i, o2_lt_i, o2_le_i, o2_gt_i, o2_ge_i, o2_is_n, o2_is_b, o2_isnot_n, o2_isnot_b, o2_eq_i, o2_eq_s, o2_eq_ns, o2_eq_b, o2_ne_b, o2_idx_t0, o2_idx_t1, o1_len_scr, o1_len_t, o1_len_l, o1_len_s, o1_not_b, o1_tuple_l, o1_list_t, o1_list_l, o1_rev_t, o1_neg_i, o1_int_b, isi_s, isi_i, isi_b, isi_n, isi_t, isi_l, isTy, isNone_n, isNone_b, isNone_i, isNone_s, isNone_t, isNone_l, isBool_b, Bool.not_true, Bool.not_false, eq_self, if_true, if_false, Bool.false_eq_true, reduceIte, beq_self_eq_true]
  have lc : 0 < (p.2.cols.map (·.1)).length := by rw [List.length_map]; exact List.length_pos_iff.mpr gp.ne
  have m3 : callF defs (n + 4) F.law_mix [.int c, .int 9497, .int (((p.2.cols.map (·.1)).map PyData.str).length : Int)] = .ok (.int (mix c 9497 (((p.2.cols.map (·.1)).map PyData.str).length : Int))) := mix_eq (n + 3) _ _ _ (by omega) (by omega) (by rw [List.length_map]; omega)
  obtain ⟨s1, s2⟩ := mix_range c 9497 (m := (((p.2.cols.map (·.1)).map PyData.str).length : Int)) (by rw [List.length_map]; omega)
  obtain ⟨y, hy, iy, _⟩ := atI_in (xs := (p.2.cols.map (·.1)).map PyData.str) s1 s2
  obtain ⟨x, hx2, rfl⟩ := List.mem_map.mp hy
  have iy := o2_idx_l iy
  have c1 : evalE (callF defs (n + 4)) c_law_change_1 (E (some (.int (mix c 9521 4))) (some (.list ((p.2.cols.map (·.1)).map PyData.str))) (some (.str x)) none none none) = .ok (.list (fresh5.map PyData.str)) := by
    unfold c_law_change_1
    have := compIf_map (ρ := callF defs (n + 4)) (t := .nm 11) (it := .seq (.tup (.cons (.str w_fresh) (.cons (.str w_aaaaaa) (.cons (.str w_brandx) (.cons (.str w_newone) (.cons (.str w_yet) .nil))))))) (c := .o2 .notin (.var 11) (.var 3)) (elt := .var 11) (env := E (some (.int (mix c 9521 4))) (some (.list ((p.2.cols.map (·.1)).map PyData.str))) (some (.str x)) none none none) fresh5 PyData.str PyData.str (fun z => !decide (z ∈ p.2.cols.map (·.1))) (by simp only [E]; simp only [evalSs, evalS, evalE, evalEs, evalIT, Res.bind_ok, Res.bind_bad, Res.bind_exc, Res.tame_ok, Fl.go_next, Fl.go_ret, Fl.fin_next, Fl.fin_ret, slot_some, List.getElem?_cons_zero, List.getElem?_cons_succ, List.set_cons_zero, List.set_cons_succ, put_nm, put_tu, puts_nil, puts_cons, chainK_t, chainK_f, truth_bool, truth_none, truth_int, truth_list, truth_tuple, truth_str, o2_add_i, o2_sub_i, o2_lt_i, o2_le_i, o2_gt_i, o2_ge_i, o2_is_n, o2_is_b, o2_isnot_n, o2_isnot_b, o2_eq_i, o2_eq_s, o2_eq_ns, o2_eq_b, o2_ne_b, o2_idx_t0, o2_idx_t1, o1_len_scr, o1_len_t, o1_len_l, o1_len_s, o1_not_b, o1_tuple_l, o1_list_t, o1_list_l, o1_rev_t, o1_neg_i, o1_int_b, isi_s, isi_i, isi_b, isi_n, isi_t, isi_l, isTy, isNone_n, isNone_b, isNone_i, isNone_s, isNone_t, isNone_l, isBool_b, Bool.not_true, Bool.not_false, eq_self, if_true, if_false, Bool.false_eq_true, reduceIte, beq_self_eq_true, itemsOf, fresh5, List.map_cons, List.map_nil]) fun z _ => ⟨_, by simp only [E]; simp only [evalSs, evalS, evalE, evalEs, evalIT, Res.bind_ok, Res.bind_bad, Res.bind_exc, Res.tame_ok, Fl.go_next, Fl.go_ret, Fl.fin_next, Fl.fin_ret, slot_some, List.getElem?_cons_zero, List.getElem?_cons_succ, List.set_cons_zero, List.set_cons_succ, put_nm, put_tu, puts_nil, puts_cons, chainK_t, chainK_f, truth_bool, truth_none, truth_int, truth_list, truth_tuple, truth_str, o2_add_i, o2_sub_i, o2_lt_i, o2_le_i, o2_gt_i, o2_ge_i, o2_is_n, o2_is_b, o2_isnot_n, o2_isnot_b, o2_eq_i, o2_eq_s, o2_eq_ns, o2_eq_b, o2_ne_b, o2_idx_t0, o2_idx_t1, o1_len_scr, o1_len_t, o1_len_l, o1_len_s, o1_not_b, o1_tuple_l, o1_list_t, o1_list_l, o1_rev_t, o1_neg_i, o1_int_b, isi_s, isi_i, isi_b, isi_n, isi_t, isi_l, isTy, isNone_n, isNone_b, isNone_i, isNone_s, isNone_t, isNone_l, isBool_b, Bool.not_true, Bool.not_false, eq_self, if_true, if_false, Bool.false_eq_true, reduceIte, beq_self_eq_true] <;> rfl, by
        have := notin_wl z (p.2.cols.map (·.1))
        simp only [evalSs, evalS, evalE, evalEs, evalIT, Res.bind_ok, Res.bind_bad, Res.bind_exc, Res.tame_ok, Fl.go_next, Fl.go_ret, Fl.fin_next, Fl.fin_ret, slot_some, List.getElem?_cons_zero, List.getElem?_cons_succ, List.set_cons_zero, List.set_cons_succ, put_nm, put_tu, puts_nil, puts_cons, chainK_t, chainK_f, truth_bool, truth_none, truth_int, truth_list, truth_tuple, truth_str, o2_add_i, o2_sub_i, o2_lt_i, o2_le_i, o2_gt_i, o2_ge_i, o2_is_n, o2_is_b, o2_isnot_n, o2_isnot_b, o2_eq_i, o2_eq_s, o2_eq_ns, o2_eq_b, o2_ne_b, o2_idx_t0, o2_idx_t1, o1_len_scr, o1_len_t, o1_len_l, o1_len_s, o1_not_b, o1_tuple_l, o1_list_t, o1_list_l, o1_rev_t, o1_neg_i, o1_int_b, isi_s, isi_i, isi_b, isi_n, isi_t, isi_l, isTy, isNone_n, isNone_b, isNone_i, isNone_s, isNone_t, isNone_l, isBool_b, Bool.not_true, Bool.not_false, eq_self, if_true, if_false, Bool.false_eq_true, reduceIte, beq_self_eq_true, this], by simp only [evalSs, evalS, evalE, evalEs, evalIT, Res.bind_ok, Res.bind_bad, Res.bind_exc, Res.tame_ok, Fl.go_next, Fl.go_ret, Fl.fin_next, Fl.fin_ret, slot_some, List.getElem?_cons_zero, List.getElem?_cons_succ, List.set_cons_zero, List.set_cons_succ, put_nm, put_tu, puts_nil, puts_cons, chainK_t, chainK_f, truth_bool, truth_none, truth_int, truth_list, truth_tuple, truth_str, o2_add_i, o2_sub_i, o2_lt_i, o2_le_i, o2_gt_i, o2_ge_i, o2_is_n, o2_is_b, o2_isnot_n, o2_isnot_b, o2_eq_i, o2_eq_s, o2_eq_ns, o2_eq_b, o2_ne_b, o2_idx_t0, o2_idx_t1, o1_len_scr, o1_len_t, o1_len_l, o1_len_s, o1_not_b, o1_tuple_l, o1_list_t, o1_list_l, o1_rev_t, o1_neg_i, o1_int_b, isi_s, isi_i, isi_b, isi_n, isi_t, isi_l, isTy, isNone_n, isNone_b, isNone_i, isNone_s, isNone_t, isNone_l, isBool_b, Bool.not_true, Bool.not_false, eq_self, if_true, if_false, Bool.false_eq_true, reduceIte, beq_self_eq_true]⟩
    rw [filter_all fun z hz => by
      rw [Bool.not_eq_true']
      refine decide_eq_false fun q => ?_
      obtain ⟨cc, hc, rfl⟩ := List.mem_map.mp q
      exact fresh_new _ hz (gp.g.nm cc hc)] at this
    exact this
  obtain ⟨t1, t2⟩ := mix_range c 9491 (m := 2) (by omega)
  obtain ⟨y2, hy2, iy2, _⟩ := atI_in (xs := fresh5.map PyData.str) (i := mix c 9491 2) t1 (by simp [fresh5]; omega)
  obtain ⟨fr, hfr, rfl⟩ := List.mem_map.mp hy2
  have iy2 := o2_idx_l iy2
  have head : ∀ r : Res Fl, evalSs (callF defs (n + 4)) (dropS 6 f_law_change.body) (E (some (.int (mix c 9521 4))) (some (.list ((p.2.cols.map (·.1)).map PyData.str))) (some (.str x)) (some (.list (fresh5.map PyData.str))) (some (.str fr)) none) = r → evalSs (callF defs (n + 4)) f_law_change.body [some (.int c), some (houseD hs), none, none, none, none, none, none, none, none, none, none, none] = r := fun r h => by
    refine (seq_asg (d := .int (mix c 9521 4)) (by simp only [evalSs, evalS, evalE, evalEs, evalIT, Res.bind_ok, Res.bind_bad, Res.bind_exc, Res.tame_ok, Fl.go_next, Fl.go_ret, Fl.fin_next, Fl.fin_ret, slot_some, List.getElem?_cons_zero, List.getElem?_cons_succ, List.set_cons_zero, List.set_cons_succ, put_nm, put_tu, puts_nil, puts_cons, chainK_t, chainK_f, truth_bool, truth_none, truth_int, truth_list, truth_tuple, truth_str, o2_add_i, o2_sub_i, o2_lt_i, o2_le_i, o2_gt_i, o2_ge_i, o2_is_n, o2_is_b, o2_isnot_n, o2_isnot_b, o2_eq_i, o2_eq_s, o2_eq_ns, o2_eq_b, o2_ne_b, o2_idx_t0, o2_idx_t1, o1_len_scr, o1_len_t, o1_len_l, o1_len_s, o1_not_b, o1_tuple_l, o1_list_t, o1_list_l, o1_rev_t, o1_neg_i, o1_int_b, isi_s, isi_i, isi_b, isi_n, isi_t, isi_l, isTy, isNone_n, isNone_b, isNone_i, isNone_s, isNone_t, isNone_l, isBool_b, Bool.not_true, Bool.not_false, eq_self, if_true, if_false, Bool.false_eq_true, reduceIte, beq_self_eq_true, m1])).trans ?_
    refine seq_next (e := E (some (.int (mix c 9521 4))) none none none none none) (by simp only [E]; simp only [evalSs, evalS, evalE, evalEs, evalIT, Res.bind_ok, Res.bind_bad, Res.bind_exc, Res.tame_ok, Fl.go_next, Fl.go_ret, Fl.fin_next, Fl.fin_ret, slot_some, List.getElem?_cons_zero, List.getElem?_cons_succ, List.set_cons_zero, List.set_cons_succ, put_nm, put_tu, puts_nil, puts_cons, chainK_t, chainK_f, truth_bool, truth_none, truth_int, truth_list, truth_tuple, truth_str, o2_add_i, o2_sub_i, o2_lt_i, o2_le_i, o2_gt_i, o2_ge_i, o2_is_n, o2_is_b, o2_isnot_n, o2_isnot_b, o2_eq_i, o2_eq_s, o2_eq_ns, o2_eq_b, o2_ne_b, o2_idx_t0, o2_idx_t1, o1_len_scr, o1_len_t, o1_len_l, o1_len_s, o1_not_b, o1_tuple_l, o1_list_t, o1_list_l, o1_rev_t, o1_neg_i, o1_int_b, isi_s, isi_i, isi_b, isi_n, isi_t, isi_l, isTy, isNone_n, isNone_b, isNone_i, isNone_s, isNone_t, isNone_l, isBool_b, Bool.not_true, Bool.not_false, eq_self, if_true, if_false, Bool.false_eq_true, reduceIte, beq_self_eq_true, m2, ix, entD]) ?_
    refine (seq_asg c0).trans ((seq_asg (d := .str x) (by simp only [E]; simp only [evalSs, evalS, evalE, evalEs, evalIT, Res.bind_ok, Res.bind_bad, Res.bind_exc, Res.tame_ok, Fl.go_next, Fl.go_ret, Fl.fin_next, Fl.fin_ret, slot_some, List.getElem?_cons_zero, List.getElem?_cons_succ, List.set_cons_zero, List.set_cons_succ, put_nm, put_tu, puts_nil, puts_cons, chainK_t, chainK_f, truth_bool, truth_none, truth_int, truth_list, truth_tuple, truth_str, o2_add_i, o2_sub_i, o2_lt_i, o2_le_i, o2_gt_i, o2_ge_i, o2_is_n, o2_is_b, o2_isnot_n, o2_isnot_b, o2_eq_i, o2_eq_s, o2_eq_ns, o2_eq_b, o2_ne_b, o2_idx_t0, o2_idx_t1, o1_len_scr, o1_len_t, o1_len_l, o1_len_s, o1_not_b, o1_tuple_l, o1_list_t, o1_list_l, o1_rev_t, o1_neg_i, o1_int_b, isi_s, isi_i, isi_b, isi_n, isi_t, isi_l, isTy, isNone_n, isNone_b, isNone_i, isNone_s, isNone_t, isNone_l, isBool_b, Bool.not_true, Bool.not_false, eq_self, if_true, if_false, Bool.false_eq_true, reduceIte, beq_self_eq_true, m3, iy])).trans ((seq_asg c1).trans ((seq_asg (d := .str fr) (by simp only [E]; simp only [evalSs, evalS, evalE, evalEs, evalIT, Res.bind_ok, Res.bind_bad, Res.bind_exc, Res.tame_ok, Fl.go_next, Fl.go_ret, Fl.fin_next, Fl.fin_ret, slot_some, List.getElem?_cons_zero, List.getElem?_cons_succ, List.set_cons_zero, List.set_cons_succ, put_nm, put_tu, puts_nil, puts_cons, chainK_t, chainK_f, truth_bool, truth_none, truth_int, truth_list, truth_tuple, truth_str, o2_add_i, o2_sub_i, o2_lt_i, o2_le_i, o2_gt_i, o2_ge_i, o2_is_n, o2_is_b, o2_isnot_n, o2_isnot_b, o2_eq_i, o2_eq_s, o2_eq_ns, o2_eq_b, o2_ne_b, o2_idx_t0, o2_idx_t1, o1_len_scr, o1_len_t, o1_len_l, o1_len_s, o1_not_b, o1_tuple_l, o1_list_t, o1_list_l, o1_rev_t, o1_neg_i, o1_int_b, isi_s, isi_i, isi_b, isi_n, isi_t, isi_l, isTy, isNone_n, isNone_b, isNone_i, isNone_s, isNone_t, isNone_l, isBool_b, Bool.not_true, Bool.not_false, eq_self, if_true, if_false, Bool.false_eq_true, reduceIte, beq_self_eq_true, m4, iy2])).trans h)))
  by_cases w0 : mix c 9521 4 = 0
  · have b0 : (mix c 9521 4 == 0) = true := by simp [w0]
    have c2 : evalE (callF defs (n + 4)) c_law_change_2 (E (some (.int (mix c 9521 4))) (some (.list ((p.2.cols.map (·.1)).map PyData.str))) (some (.str x)) (some (.list (fresh5.map PyData.str))) (some (.str fr)) none) = .ok (.list (pqr.map PyData.str)) := by
      unfold c_law_change_2
      rw [← ns]
      refine comp_map2 hs entD _ _ (by simp only [E, houseD]; simp only [evalSs, evalS, evalE, evalEs, evalIT, Res.bind_ok, Res.bind_bad, Res.bind_exc, Res.tame_ok, Fl.go_next, Fl.go_ret, Fl.fin_next, Fl.fin_ret, slot_some, List.getElem?_cons_zero, List.getElem?_cons_succ, List.set_cons_zero, List.set_cons_succ, put_nm, put_tu, puts_nil, puts_cons, chainK_t, chainK_f, truth_bool, truth_none, truth_int, truth_list, truth_tuple, truth_str, o2_add_i, o2_sub_i, o2_lt_i, o2_le_i, o2_gt_i, o2_ge_i, o2_is_n, o2_is_b, o2_isnot_n, o2_isnot_b, o2_eq_i, o2_eq_s, o2_eq_ns, o2_eq_b, o2_ne_b, o2_idx_t0, o2_idx_t1, o1_len_scr, o1_len_t, o1_len_l, o1_len_s, o1_not_b, o1_tuple_l, o1_list_t, o1_list_l, o1_rev_t, o1_neg_i, o1_int_b, isi_s, isi_i, isi_b, isi_n, isi_t, isi_l, isTy, isNone_n, isNone_b, isNone_i, isNone_s, isNone_t, isNone_l, isBool_b, Bool.not_true, Bool.not_false, eq_self, if_true, if_false, Bool.false_eq_true, reduceIte, beq_self_eq_true, itemsOf]) fun q _ => ⟨_, by simp only [E]; simp only [evalSs, evalS, evalE, evalEs, evalIT, Res.bind_ok, Res.bind_bad, Res.bind_exc, Res.tame_ok, Fl.go_next, Fl.go_ret, Fl.fin_next, Fl.fin_ret, slot_some, List.getElem?_cons_zero, List.getElem?_cons_succ, List.set_cons_zero, List.set_cons_succ, put_nm, put_tu, puts_nil, puts_cons, chainK_t, chainK_f, truth_bool, truth_none, truth_int, truth_list, truth_tuple, truth_str, o2_add_i, o2_sub_i, o2_lt_i, o2_le_i, o2_gt_i, o2_ge_i, o2_is_n, o2_is_b, o2_isnot_n, o2_isnot_b, o2_eq_i, o2_eq_s, o2_eq_ns, o2_eq_b, o2_ne_b, o2_idx_t0, o2_idx_t1, o1_len_scr, o1_len_t, o1_len_l, o1_len_s, o1_not_b, o1_tuple_l, o1_list_t, o1_list_l, o1_rev_t, o1_neg_i, o1_int_b, isi_s, isi_i, isi_b, isi_n, isi_t, isi_l, isTy, isNone_n, isNone_b, isNone_i, isNone_s, isNone_t, isNone_l, isBool_b, Bool.not_true, Bool.not_false, eq_self, if_true, if_false, Bool.false_eq_true, reduceIte, beq_self_eq_true, entD] <;> rfl, ?_⟩
      simp only [evalSs, evalS, evalE, evalEs, evalIT, Res.bind_ok, Res.bind_bad, Res.bind_exc, Res.tame_ok, Fl.go_next, Fl.go_ret, Fl.fin_next, Fl.fin_ret, slot_some, List.getElem?_cons_zero, List.getElem?_cons_succ, List.set_cons_zero, List.set_cons_succ, put_nm, put_tu, puts_nil, puts_cons, chainK_t, chainK_f, truth_bool, truth_none, truth_int, truth_list, truth_tuple, truth_str, o2_add_i, o2_sub_i, o2_lt_i, o2_le_i, o2_gt_i, o2_ge_i, o2_is_n, o2_is_b, o2_isnot_n, o2_isnot_b, o2_eq_i, o2_eq_s, o2_eq_ns, o2_eq_b, o2_ne_b, o2_idx_t0, o2_idx_t1, o1_len_scr, o1_len_t, o1_len_l, o1_len_s, o1_not_b, o1_tuple_l, o1_list_t, o1_list_l, o1_rev_t, o1_neg_i, o1_int_b, isi_s, isi_i, isi_b, isi_n, isi_t, isi_l, isTy, isNone_n, isNone_b, isNone_i, isNone_s, isNone_t, isNone_l, isBool_b, Bool.not_true, Bool.not_false, eq_self, if_true, if_false, Bool.false_eq_true, reduceIte, beq_self_eq_true]
    have c3 : evalE (callF defs (n + 4)) c_law_change_3 (E (some (.int (mix c 9521 4))) (some (.list ((p.2.cols.map (·.1)).map PyData.str))) (some (.str x)) (some (.list (fresh5.map PyData.str))) (some (.str fr)) (some (.list (pqr.map PyData.str)))) = .ok (.list (moved5.map PyData.str)) := by
      unfold c_law_change_3
      have := compIf_map (ρ := callF defs (n + 4)) (t := .nm 11) (it := .seq (.tup (.cons (.str w_aa) (.cons (.str w_pp) (.cons (.str w_zz) (.cons (.str w_yy) (.cons (.str w_qq) .nil))))))) (c := .o2 .notin (.var 11) (.var 9)) (elt := .var 11) (env := E (some (.int (mix c 9521 4))) (some (.list ((p.2.cols.map (·.1)).map PyData.str))) (some (.str x)) (some (.list (fresh5.map PyData.str))) (some (.str fr)) (some (.list (pqr.map PyData.str)))) moved5 PyData.str PyData.str (fun z => !decide (z ∈ pqr)) (by simp only [E]; simp only [evalSs, evalS, evalE, evalEs, evalIT, Res.bind_ok, Res.bind_bad, Res.bind_exc, Res.tame_ok, Fl.go_next, Fl.go_ret, Fl.fin_next, Fl.fin_ret, slot_some, List.getElem?_cons_zero, List.getElem?_cons_succ, List.set_cons_zero, List.set_cons_succ, put_nm, put_tu, puts_nil, puts_cons, chainK_t, chainK_f, truth_bool, truth_none, truth_int, truth_list, truth_tuple, truth_str, o2_add_i, o2_sub_i, o2_lt_i, o2_le_i, o2_gt_i, o2_ge_i, o2_is_n, o2_is_b, o2_isnot_n, o2_isnot_b, o2_eq_i, o2_eq_s, o2_eq_ns, o2_eq_b, o2_ne_b, o2_idx_t0, o2_idx_t1, o1_len_scr, o1_len_t, o1_len_l, o1_len_s, o1_not_b, o1_tuple_l, o1_list_t, o1_list_l, o1_rev_t, o1_neg_i, o1_int_b, isi_s, isi_i, isi_b, isi_n, isi_t, isi_l, isTy, isNone_n, isNone_b, isNone_i, isNone_s, isNone_t, isNone_l, isBool_b, Bool.not_true, Bool.not_false, eq_self, if_true, if_false, Bool.false_eq_true, reduceIte, beq_self_eq_true, itemsOf, moved5, List.map_cons, List.map_nil]) fun z _ => ⟨_, by simp only [E]; simp only [evalSs, evalS, evalE, evalEs, evalIT, Res.bind_ok, Res.bind_bad, Res.bind_exc, Res.tame_ok, Fl.go_next, Fl.go_ret, Fl.fin_next, Fl.fin_ret, slot_some, List.getElem?_cons_zero, List.getElem?_cons_succ, List.set_cons_zero, List.set_cons_succ, put_nm, put_tu, puts_nil, puts_cons, chainK_t, chainK_f, truth_bool, truth_none, truth_int, truth_list, truth_tuple, truth_str, o2_add_i, o2_sub_i, o2_lt_i, o2_le_i, o2_gt_i, o2_ge_i, o2_is_n, o2_is_b, o2_isnot_n, o2_isnot_b, o2_eq_i, o2_eq_s, o2_eq_ns, o2_eq_b, o2_ne_b, o2_idx_t0, o2_idx_t1, o1_len_scr, o1_len_t, o1_len_l, o1_len_s, o1_not_b, o1_tuple_l, o1_list_t, o1_list_l, o1_rev_t, o1_neg_i, o1_int_b, isi_s, isi_i, isi_b, isi_n, isi_t, isi_l, isTy, isNone_n, isNone_b, isNone_i, isNone_s, isNone_t, isNone_l, isBool_b, Bool.not_true, Bool.not_false, eq_self, if_true, if_false, Bool.false_eq_true, reduceIte, beq_self_eq_true] <;> rfl, by
          have := notin_wl z pqr
          simp only [evalSs, evalS, evalE, evalEs, evalIT, Res.bind_ok, Res.bind_bad, Res.bind_exc, Res.tame_ok, Fl.go_next, Fl.go_ret, Fl.fin_next, Fl.fin_ret, slot_some, List.getElem?_cons_zero, List.getElem?_cons_succ, List.set_cons_zero, List.set_cons_succ, put_nm, put_tu, puts_nil, puts_cons, chainK_t, chainK_f, truth_bool, truth_none, truth_int, truth_list, truth_tuple, truth_str, o2_add_i, o2_sub_i, o2_lt_i, o2_le_i, o2_gt_i, o2_ge_i, o2_is_n, o2_is_b, o2_isnot_n, o2_isnot_b, o2_eq_i, o2_eq_s, o2_eq_ns, o2_eq_b, o2_ne_b, o2_idx_t0, o2_idx_t1, o1_len_scr, o1_len_t, o1_len_l, o1_len_s, o1_not_b, o1_tuple_l, o1_list_t, o1_list_l, o1_rev_t, o1_neg_i, o1_int_b, isi_s, isi_i, isi_b, isi_n, isi_t, isi_l, isTy, isNone_n, isNone_b, isNone_i, isNone_s, isNone_t, isNone_l, isBool_b, Bool.not_true, Bool.not_false, eq_self, if_true, if_false, Bool.false_eq_true, reduceIte, beq_self_eq_true, this], by simp only [evalSs, evalS, evalE, evalEs, evalIT, Res.bind_ok, Res.bind_bad, Res.bind_exc, Res.tame_ok, Fl.go_next, Fl.go_ret, Fl.fin_next, Fl.fin_ret, slot_some, List.getElem?_cons_zero, List.getElem?_cons_succ, List.set_cons_zero, List.set_cons_succ, put_nm, put_tu, puts_nil, puts_cons, chainK_t, chainK_f, truth_bool, truth_none, truth_int, truth_list, truth_tuple, truth_str, o2_add_i, o2_sub_i, o2_lt_i, o2_le_i, o2_gt_i, o2_ge_i, o2_is_n, o2_is_b, o2_isnot_n, o2_isnot_b, o2_eq_i, o2_eq_s, o2_eq_ns, o2_eq_b, o2_ne_b, o2_idx_t0, o2_idx_t1, o1_len_scr, o1_len_t, o1_len_l, o1_len_s, o1_not_b, o1_tuple_l, o1_list_t, o1_list_l, o1_rev_t, o1_neg_i, o1_int_b, isi_s, isi_i, isi_b, isi_n, isi_t, isi_l, isTy, isNone_n, isNone_b, isNone_i, isNone_s, isNone_t, isNone_l, isBool_b, Bool.not_true, Bool.not_false, eq_self, if_true, if_false, Bool.false_eq_true, reduceIte, beq_self_eq_true]⟩
      rw [filter_all fun z hz => by
        rw [Bool.not_eq_true']
        exact decide_eq_false (moved_new z hz)] at this
      exact this
    obtain ⟨u1, u2⟩ := mix_range c 9479 (m := 2) (by omega)
    obtain ⟨y3, hy3, iy3, _⟩ := atI_in (xs := moved5.map PyData.str) (i := mix c 9479 2) u1 (by simp [moved5]; omega)
    obtain ⟨mv, hmv, rfl⟩ := List.mem_map.mp hy3
    have iy3 := o2_idx_l iy3
    refine ⟨.moved p.1 mv, ⟨pp, hmv⟩, fin_of (head _ ?_)⟩
    exact seq_if_t (d := .bool true) (by simp only [E]; simp only [evalSs, evalS, evalE, evalEs, evalIT, Res.bind_ok, Res.bind_bad, Res.bind_exc, Res.tame_ok, Fl.go_next, Fl.go_ret, Fl.fin_next, Fl.fin_ret, slot_some, List.getElem?_cons_zero, List.getElem?_cons_succ, List.set_cons_zero, List.set_cons_succ, put_nm, put_tu, puts_nil, puts_cons, chainK_t, chainK_f, truth_bool, truth_none, truth_int, truth_list, truth_tuple, truth_str, o2_add_i, o2_sub_i, o2_lt_i, o2_le_i, o2_gt_i, o2_ge_i, o2_is_n, o2_is_b, o2_isnot_n, o2_isnot_b, o2_eq_i, o2_eq_s, o2_eq_ns, o2_eq_b, o2_ne_b, o2_idx_t0, o2_idx_t1, o1_len_scr, o1_len_t, o1_len_l, o1_len_s, o1_not_b, o1_tuple_l, o1_list_t, o1_list_l, o1_rev_t, o1_neg_i, o1_int_b, isi_s, isi_i, isi_b, isi_n, isi_t, isi_l, isTy, isNone_n, isNone_b, isNone_i, isNone_s, isNone_t, isNone_l, isBool_b, Bool.not_true, Bool.not_false, eq_self, if_true, if_false, Bool.false_eq_true, reduceIte, beq_self_eq_true, b0]) rfl ((seq_asg c2).trans ((seq_asg c3).trans (seq_ret (by simp only [E]; simp only [evalSs, evalS, evalE, evalEs, evalIT, Res.bind_ok, Res.bind_bad, Res.bind_exc, Res.tame_ok, Fl.go_next, Fl.go_ret, Fl.fin_next, Fl.fin_ret, slot_some, List.getElem?_cons_zero, List.getElem?_cons_succ, List.set_cons_zero, List.set_cons_succ, put_nm, put_tu, puts_nil, puts_cons, chainK_t, chainK_f, truth_bool, truth_none, truth_int, truth_list, truth_tuple, truth_str, o2_add_i, o2_sub_i, o2_lt_i, o2_le_i, o2_gt_i, o2_ge_i, o2_is_n, o2_is_b, o2_isnot_n, o2_isnot_b, o2_eq_i, o2_eq_s, o2_eq_ns, o2_eq_b, o2_ne_b, o2_idx_t0, o2_idx_t1, o1_len_scr, o1_len_t, o1_len_l, o1_len_s, o1_not_b, o1_tuple_l, o1_list_t, o1_list_l, o1_rev_t, o1_neg_i, o1_int_b, isi_s, isi_i, isi_b, isi_n, isi_t, isi_l, isTy, isNone_n, isNone_b, isNone_i, isNone_s, isNone_t, isNone_l, isBool_b, Bool.not_true, Bool.not_false, eq_self, if_true, if_false, Bool.false_eq_true, reduceIte, beq_self_eq_true, m5, iy3, chD]))))
  · have b0 : (mix c 9521 4 == 0) = false := beq_eq_false_iff_ne.mpr w0
    by_cases w1 : mix c 9521 4 = 1
    · have b1 : (mix c 9521 4 == 1) = true := by simp [w1]
      refine ⟨.called p.1 x fr, hfr, fin_of (head _ ?_)⟩
      exact (seq_if_f (d := .bool false) (by simp only [E]; simp only [evalSs, evalS, evalE, evalEs, evalIT, Res.bind_ok, Res.bind_bad, Res.bind_exc, Res.tame_ok, Fl.go_next, Fl.go_ret, Fl.fin_next, Fl.fin_ret, slot_some, List.getElem?_cons_zero, List.getElem?_cons_succ, List.set_cons_zero, List.set_cons_succ, put_nm, put_tu, puts_nil, puts_cons, chainK_t, chainK_f, truth_bool, truth_none, truth_int, truth_list, truth_tuple, truth_str, o2_add_i, o2_sub_i, o2_lt_i, o2_le_i, o2_gt_i, o2_ge_i, o2_is_n, o2_is_b, o2_isnot_n, o2_isnot_b, o2_eq_i, o2_eq_s, o2_eq_ns, o2_eq_b, o2_ne_b, o2_idx_t0, o2_idx_t1, o1_len_scr, o1_len_t, o1_len_l, o1_len_s, o1_not_b, o1_tuple_l, o1_list_t, o1_list_l, o1_rev_t, o1_neg_i, o1_int_b, isi_s, isi_i, isi_b, isi_n, isi_t, isi_l, isTy, isNone_n, isNone_b, isNone_i, isNone_s, isNone_t, isNone_l, isBool_b, Bool.not_true, Bool.not_false, eq_self, if_true, if_false, Bool.false_eq_true, reduceIte, beq_self_eq_true, b0]) rfl rfl).trans (seq_if_t (d := .bool true) (by simp only [E]; simp only [evalSs, evalS, evalE, evalEs, evalIT, Res.bind_ok, Res.bind_bad, Res.bind_exc, Res.tame_ok, Fl.go_next, Fl.go_ret, Fl.fin_next, Fl.fin_ret, slot_some, List.getElem?_cons_zero, List.getElem?_cons_succ, List.set_cons_zero, List.set_cons_succ, put_nm, put_tu, puts_nil, puts_cons, chainK_t, chainK_f, truth_bool, truth_none, truth_int, truth_list, truth_tuple, truth_str, o2_add_i, o2_sub_i, o2_lt_i, o2_le_i, o2_gt_i, o2_ge_i, o2_is_n, o2_is_b, o2_isnot_n, o2_isnot_b, o2_eq_i, o2_eq_s, o2_eq_ns, o2_eq_b, o2_ne_b, o2_idx_t0, o2_idx_t1, o1_len_scr, o1_len_t, o1_len_l, o1_len_s, o1_not_b, o1_tuple_l, o1_list_t, o1_list_l, o1_rev_t, o1_neg_i, o1_int_b, isi_s, isi_i, isi_b, isi_n, isi_t, isi_l, isTy, isNone_n, isNone_b, isNone_i, isNone_s, isNone_t, isNone_l, isBool_b, Bool.not_true, Bool.not_false, eq_self, if_true, if_false, Bool.false_eq_true, reduceIte, beq_self_eq_true, b1]) rfl (seq_ret (by simp only [E]; simp only [evalSs, evalS, evalE, evalEs, evalIT, Res.bind_ok, Res.bind_bad, Res.bind_exc, Res.tame_ok, Fl.go_next, Fl.go_ret, Fl.fin_next, Fl.fin_ret, slot_some, List.getElem?_cons_zero, List.getElem?_cons_succ, List.set_cons_zero, List.set_cons_succ, put_nm, put_tu, puts_nil, puts_cons, chainK_t, chainK_f, truth_bool, truth_none, truth_int, truth_list, truth_tuple, truth_str, o2_add_i, o2_sub_i, o2_lt_i, o2_le_i, o2_gt_i, o2_ge_i, o2_is_n, o2_is_b, o2_isnot_n, o2_isnot_b, o2_eq_i, o2_eq_s, o2_eq_ns, o2_eq_b, o2_ne_b, o2_idx_t0, o2_idx_t1, o1_len_scr, o1_len_t, o1_len_l, o1_len_s, o1_not_b, o1_tuple_l, o1_list_t, o1_list_l, o1_rev_t, o1_neg_i, o1_int_b, isi_s, isi_i, isi_b, isi_n, isi_t, isi_l, isTy, isNone_n, isNone_b, isNone_i, isNone_s, isNone_t, isNone_l, isBool_b, Bool.not_true, Bool.not_false, eq_self, if_true, if_false, Bool.false_eq_true, reduceIte, beq_self_eq_true, chD])))
    · have b1 : (mix c 9521 4 == 1) = false := beq_eq_false_iff_ne.mpr w1
      by_cases w2 : mix c 9521 4 = 2
      · have b2 : (mix c 9521 4 == 2) = true := by simp [w2]
        have hk := kind_eq (n + 2) (c + 3)
        obtain ⟨v, v1, v2⟩ := value_drawn (n + 1) (c + 4) (kindOf (c + 3)).1 (kindOf (c + 3)).2 (kindOf_in _)
        refine ⟨.wider p.1 fr (kindOf (c + 3)).1 (kindOf (c + 3)).2 v, ⟨hfr, kindOf_in _, v2⟩, fin_of (head _ ?_)⟩
        exact (seq_if_f (d := .bool false) (by simp only [E]; simp only [evalSs, evalS, evalE, evalEs, evalIT, Res.bind_ok, Res.bind_bad, Res.bind_exc, Res.tame_ok, Fl.go_next, Fl.go_ret, Fl.fin_next, Fl.fin_ret, slot_some, List.getElem?_cons_zero, List.getElem?_cons_succ, List.set_cons_zero, List.set_cons_succ, put_nm, put_tu, puts_nil, puts_cons, chainK_t, chainK_f, truth_bool, truth_none, truth_int, truth_list, truth_tuple, truth_str, o2_add_i, o2_sub_i, o2_lt_i, o2_le_i, o2_gt_i, o2_ge_i, o2_is_n, o2_is_b, o2_isnot_n, o2_isnot_b, o2_eq_i, o2_eq_s, o2_eq_ns, o2_eq_b, o2_ne_b, o2_idx_t0, o2_idx_t1, o1_len_scr, o1_len_t, o1_len_l, o1_len_s, o1_not_b, o1_tuple_l, o1_list_t, o1_list_l, o1_rev_t, o1_neg_i, o1_int_b, isi_s, isi_i, isi_b, isi_n, isi_t, isi_l, isTy, isNone_n, isNone_b, isNone_i, isNone_s, isNone_t, isNone_l, isBool_b, Bool.not_true, Bool.not_false, eq_self, if_true, if_false, Bool.false_eq_true, reduceIte, beq_self_eq_true, b0]) rfl rfl).trans ((seq_if_f (d := .bool false) (by simp only [E]; simp only [evalSs, evalS, evalE, evalEs, evalIT, Res.bind_ok, Res.bind_bad, Res.bind_exc, Res.tame_ok, Fl.go_next, Fl.go_ret, Fl.fin_next, Fl.fin_ret, slot_some, List.getElem?_cons_zero, List.getElem?_cons_succ, List.set_cons_zero, List.set_cons_succ, put_nm, put_tu, puts_nil, puts_cons, chainK_t, chainK_f, truth_bool, truth_none, truth_int, truth_list, truth_tuple, truth_str, o2_add_i, o2_sub_i, o2_lt_i, o2_le_i, o2_gt_i, o2_ge_i, o2_is_n, o2_is_b, o2_isnot_n, o2_isnot_b, o2_eq_i, o2_eq_s, o2_eq_ns, o2_eq_b, o2_ne_b, o2_idx_t0, o2_idx_t1, o1_len_scr, o1_len_t, o1_len_l, o1_len_s, o1_not_b, o1_tuple_l, o1_list_t, o1_list_l, o1_rev_t, o1_neg_i, o1_int_b, isi_s, isi_i, isi_b, isi_n, isi_t, isi_l, isTy, isNone_n, isNone_b, isNone_i, isNone_s, isNone_t, isNone_l, isBool_b, Bool.not_true, Bool.not_false, eq_self, if_true, if_false, Bool.false_eq_true, reduceIte, beq_self_eq_true, b1]) rfl rfl).trans (seq_if_t (d := .bool true) (by simp only [E]; simp only [evalSs, evalS, evalE, evalEs, evalIT, Res.bind_ok, Res.bind_bad, Res.bind_exc, Res.tame_ok, Fl.go_next, Fl.go_ret, Fl.fin_next, Fl.fin_ret, slot_some, List.getElem?_cons_zero, List.getElem?_cons_succ, List.set_cons_zero, List.set_cons_succ, put_nm, put_tu, puts_nil, puts_cons, chainK_t, chainK_f, truth_bool, truth_none, truth_int, truth_list, truth_tuple, truth_str, o2_add_i, o2_sub_i, o2_lt_i, o2_le_i, o2_gt_i, o2_ge_i, o2_is_n, o2_is_b, o2_isnot_n, o2_isnot_b, o2_eq_i, o2_eq_s, o2_eq_ns, o2_eq_b, o2_ne_b, o2_idx_t0, o2_idx_t1, o1_len_scr, o1_len_t, o1_len_l, o1_len_s, o1_not_b, o1_tuple_l, o1_list_t, o1_list_l, o1_rev_t, o1_neg_i, o1_int_b, isi_s, isi_i, isi_b, isi_n, isi_t, isi_l, isTy, isNone_n, isNone_b, isNone_i, isNone_s, isNone_t, isNone_l, isBool_b, Bool.not_true, Bool.not_false, eq_self, if_true, if_false, Bool.false_eq_true, reduceIte, beq_self_eq_true, b2]) rfl ((seq_asg (d := kindD (kindOf (c + 3)).1 (kindOf (c + 3)).2) (by simp only [E]; simp only [evalSs, evalS, evalE, evalEs, evalIT, Res.bind_ok, Res.bind_bad, Res.bind_exc, Res.tame_ok, Fl.go_next, Fl.go_ret, Fl.fin_next, Fl.fin_ret, slot_some, List.getElem?_cons_zero, List.getElem?_cons_succ, List.set_cons_zero, List.set_cons_succ, put_nm, put_tu, puts_nil, puts_cons, chainK_t, chainK_f, truth_bool, truth_none, truth_int, truth_list, truth_tuple, truth_str, o2_add_i, o2_sub_i, o2_lt_i, o2_le_i, o2_gt_i, o2_ge_i, o2_is_n, o2_is_b, o2_isnot_n, o2_isnot_b, o2_eq_i, o2_eq_s, o2_eq_ns, o2_eq_b, o2_ne_b, o2_idx_t0, o2_idx_t1, o1_len_scr, o1_len_t, o1_len_l, o1_len_s, o1_not_b, o1_tuple_l, o1_list_t, o1_list_l, o1_rev_t, o1_neg_i, o1_int_b, isi_s, isi_i, isi_b, isi_n, isi_t, isi_l, isTy, isNone_n, isNone_b, isNone_i, isNone_s, isNone_t, isNone_l, isBool_b, Bool.not_true, Bool.not_false, eq_self, if_true, if_false, Bool.false_eq_true, reduceIte, beq_self_eq_true, hk])).trans (seq_ret (by simp only [E]; simp only [evalSs, evalS, evalE, evalEs, evalIT, Res.bind_ok, Res.bind_bad, Res.bind_exc, Res.tame_ok, Fl.go_next, Fl.go_ret, Fl.fin_next, Fl.fin_ret, slot_some, List.getElem?_cons_zero, List.getElem?_cons_succ, List.set_cons_zero, List.set_cons_succ, put_nm, put_tu, puts_nil, puts_cons, chainK_t, chainK_f, truth_bool, truth_none, truth_int, truth_list, truth_tuple, truth_str, o2_add_i, o2_sub_i, o2_lt_i, o2_le_i, o2_gt_i, o2_ge_i, o2_is_n, o2_is_b, o2_isnot_n, o2_isnot_b, o2_eq_i, o2_eq_s, o2_eq_ns, o2_eq_b, o2_ne_b, o2_idx_t0, o2_idx_t1, o1_len_scr, o1_len_t, o1_len_l, o1_len_s, o1_not_b, o1_tuple_l, o1_list_t, o1_list_l, o1_rev_t, o1_neg_i, o1_int_b, isi_s, isi_i, isi_b, isi_n, isi_t, isi_l, isTy, isNone_n, isNone_b, isNone_i, isNone_s, isNone_t, isNone_l, isBool_b, Bool.not_true, Bool.not_false, eq_self, if_true, if_false, Bool.false_eq_true, reduceIte, beq_self_eq_true, v1, chD])))))
      · have b2 : (mix c 9521 4 == 2) = false := beq_eq_false_iff_ne.mpr w2
        refine ⟨.gappy p.1 x, trivial, fin_of (head _ ?_)⟩
        exact (seq_if_f (d := .bool false) (by simp only [E]; simp only [evalSs, evalS, evalE, evalEs, evalIT, Res.bind_ok, Res.bind_bad, Res.bind_exc, Res.tame_ok, Fl.go_next, Fl.go_ret, Fl.fin_next, Fl.fin_ret, slot_some, List.getElem?_cons_zero, List.getElem?_cons_succ, List.set_cons_zero, List.set_cons_succ, put_nm, put_tu, puts_nil, puts_cons, chainK_t, chainK_f, truth_bool, truth_none, truth_int, truth_list, truth_tuple, truth_str, o2_add_i, o2_sub_i, o2_lt_i, o2_le_i, o2_gt_i, o2_ge_i, o2_is_n, o2_is_b, o2_isnot_n, o2_isnot_b, o2_eq_i, o2_eq_s, o2_eq_ns, o2_eq_b, o2_ne_b, o2_idx_t0, o2_idx_t1, o1_len_scr, o1_len_t, o1_len_l, o1_len_s, o1_not_b, o1_tuple_l, o1_list_t, o1_list_l, o1_rev_t, o1_neg_i, o1_int_b, isi_s, isi_i, isi_b, isi_n, isi_t, isi_l, isTy, isNone_n, isNone_b, isNone_i, isNone_s, isNone_t, isNone_l, isBool_b, Bool.not_true, Bool.not_false, eq_self, if_true, if_false, Bool.false_eq_true, reduceIte, beq_self_eq_true, b0]) rfl rfl).trans ((seq_if_f (d := .bool false) (by simp only [E]; simp only [evalSs, evalS, evalE, evalEs, evalIT, Res.bind_ok, Res.bind_bad, Res.bind_exc, Res.tame_ok, Fl.go_next, Fl.go_ret, Fl.fin_next, Fl.fin_ret, slot_some, List.getElem?_cons_zero, List.getElem?_cons_succ, List.set_cons_zero, List.set_cons_succ, put_nm, put_tu, puts_nil, puts_cons, chainK_t, chainK_f, truth_bool, truth_none, truth_int, truth_list, truth_tuple, truth_str, o2_add_i, o2_sub_i, o2_lt_i, o2_le_i, o2_gt_i, o2_ge_i, o2_is_n, o2_is_b, o2_isnot_n, o2_isnot_b, o2_eq_i, o2_eq_s, o2_eq_ns, o2_eq_b, o2_ne_b, o2_idx_t0, o2_idx_t1, o1_len_scr, o1_len_t, o1_len_l, o1_len_s, o1_not_b, o1_tuple_l, o1_list_t, o1_list_l, o1_rev_t, o1_neg_i, o1_int_b, isi_s, isi_i, isi_b, isi_n, isi_t, isi_l, isTy, isNone_n, isNone_b, isNone_i, isNone_s, isNone_t, isNone_l, isBool_b, Bool.not_true, Bool.not_false, eq_self, if_true, if_false, Bool.false_eq_true, reduceIte, beq_self_eq_true, b1]) rfl rfl).trans ((seq_if_f (d := .bool false) (by simp only [E]; simp only [evalSs, evalS, evalE, evalEs, evalIT, Res.bind_ok, Res.bind_bad, Res.bind_exc, Res.tame_ok, Fl.go_next, Fl.go_ret, Fl.fin_next, Fl.fin_ret, slot_some, List.getElem?_cons_zero, List.getElem?_cons_succ, List.set_cons_zero, List.set_cons_succ, put_nm, put_tu, puts_nil, puts_cons, chainK_t, chainK_f, truth_bool, truth_none, truth_int, truth_list, truth_tuple, truth_str, o2_add_i, o2_sub_i, o2_lt_i, o2_le_i, o2_gt_i, o2_ge_i, o2_is_n, o2_is_b, o2_isnot_n, o2_isnot_b, o2_eq_i, o2_eq_s, o2_eq_ns, o2_eq_b, o2_ne_b, o2_idx_t0, o2_idx_t1, o1_len_scr, o1_len_t, o1_len_l, o1_len_s, o1_not_b, o1_tuple_l, o1_list_t, o1_list_l, o1_rev_t, o1_neg_i, o1_int_b, isi_s, isi_i, isi_b, isi_n, isi_t, isi_l, isTy, isNone_n, isNone_b, isNone_i, isNone_s, isNone_t, isNone_l, isBool_b, Bool.not_true, Bool.not_false, eq_self, if_true, if_false, Bool.false_eq_true, reduceIte, beq_self_eq_true, b2]) rfl rfl).trans (seq_ret (by simp only [E]; simp only [evalSs, evalS, evalE, evalEs, evalIT, Res.bind_ok, Res.bind_bad, Res.bind_exc, Res.tame_ok, Fl.go_next, Fl.go_ret, Fl.fin_next, Fl.fin_ret, slot_some, List.getElem?_cons_zero, List.getElem?_cons_succ, List.set_cons_zero, List.set_cons_succ, put_nm, put_tu, puts_nil, puts_cons, chainK_t, chainK_f, truth_bool, truth_none, truth_int, truth_list, truth_tuple, truth_str, o2_add_i, o2_sub_i, o2_lt_i, o2_le_i, o2_gt_i, o2_ge_i, o2_is_n, o2_is_b, o2_isnot_n, o2_isnot_b, o2_eq_i, o2_eq_s, o2_eq_ns, o2_eq_b, o2_ne_b, o2_idx_t0, o2_idx_t1, o1_len_scr, o1_len_t, o1_len_l, o1_len_s, o1_not_b, o1_tuple_l, o1_list_t, o1_list_l, o1_rev_t, o1_neg_i, o1_int_b, isi_s, isi_i, isi_b, isi_n, isi_t, isi_l, isTy, isNone_n, isNone_b, isNone_i, isNone_s, isNone_t, isNone_l, isBool_b, Bool.not_true, Bool.not_false, eq_self, if_true, if_false, Bool.false_eq_true, reduceIte, beq_self_eq_true, chD]))))
/-! what is changed is a house -/
def names12 : List Str := names7 ++ fresh5
theorem names12_ok : (∀ x ∈ names12, isName (.str x) = true) ∧ ∀ x ∈ names12, fine 10 (.str x) = true := by decide +kernel
theorem sorts_fine : ∀ x ∈ sorts3, fine 10 (.str x) = true := by decide +kernel
structure GoodN (cols : List Col) : Prop where
  nd : (cols.map (·.1)).Nodup
  nm : ∀ c ∈ cols, c.1 ∈ names12
  kd : ∀ c ∈ cols, c.2.1 ∈ sorts3
  ne : cols ≠ []
  ln : cols.length ≤ 10
theorem headingN {cols : List Col} (g : GoodN cols) : isHeading (.tuple (cols.map colD)) = true := by
  rw [isHeading_t, Bool.and_eq_true, Bool.and_eq_true]
  have e : (cols.map colD).map nameOf = cols.map (·.1) := by rw [List.map_map]; rfl
  refine ⟨⟨?_, List.all_eq_true.mpr fun d hd => ?_⟩, ?_⟩
  · have := g.ne
    cases cols with
    | nil => exact absurd rfl this
    | cons _ _ => rfl
  · obtain ⟨c, hc, rfl⟩ := List.mem_map.mp hd
    show (isName (.str c.1) && isSort (.str c.2.1)) = true
    rw [names12_ok.1 _ (g.nm c hc)]
    exact decide_eq_true (g.kd c hc)
  · rw [e, unlike_nodup _ g.nd]
    simp
theorem finesN {cols : List Col} (g : GoodN cols) : fine 10 (.tuple (cols.map colD)) = true := by
  rw [fine_tuple]
  refine ⟨by rw [List.length_map]; exact g.ln, fun d hd => ?_⟩
  obtain ⟨c, hc, rfl⟩ := List.mem_map.mp hd
  exact fine_t1 (by omega) (names12_ok.2 _ (g.nm c hc)) (fine_t1 (by omega) (sorts_fine _ (g.kd c hc)) rfl)
structure GoodU (t : Tb) : Prop where
  g : GoodN t.cols
  rs : ∀ r ∈ t.rows, RowOk t.cols r
  ln : t.rows.length ≤ 10
theorem goodU_of {t : Tb} (g : GoodT t) : GoodU t := ⟨⟨g.g.nd, fun c hc => List.mem_append_left _ (g.g.nm c hc), g.g.kd, g.ne, Nat.le_trans (good_len g.g) (by omega)⟩, g.rs, g.ln⟩
theorem tableU {t : Tb} (g : GoodU t) : isTable (tabD t) = true := by
  simp only [tabD, isTable, headingN g.g, itemsT, Bool.true_and]
  rw [List.all_eq_true]
  intro d hd
  obtain ⟨r, hr, rfl⟩ := List.mem_map.mp hd
  exact rowok_is (g.rs r hr)
theorem finesU {t : Tb} (g : GoodU t) : fine 10 (tabD t) = true := by
  rw [tabD]
  refine fine_t1 (by omega) (finesN g.g) ?_
  rw [fine_tuple]
  refine ⟨by rw [List.length_map]; exact g.ln, fun d hd => ?_⟩
  obtain ⟨r, hr, rfl⟩ := List.mem_map.mp hd
  exact row_fine (g.rs r hr) g.g.ln
theorem fewU {t : Tb} (g : GoodU t) : TabFew t := ⟨Nat.le_trans g.g.ln (by omega), fun r hr => by rw [(g.rs r hr).len]; exact Nat.le_trans g.g.ln (by omega)⟩
theorem rowok_map {f : Col → Col} (hf : ∀ c v, VOk c v → VOk (f c) v) {cols : List Col} {r : List D} (h : RowOk cols r) : RowOk (cols.map f) r := by
  induction h with
  | nil => exact .nil
  | cons h1 _ ih => exact .cons (hf _ _ h1) ih
theorem rowok_snoc {c : Col} {v : D} (hv : VOk c v) {cols : List Col} {r : List D} (h : RowOk cols r) : RowOk (cols ++ [c]) (r ++ [v]) := by
  induction h with
  | nil => exact .cons hv .nil
  | cons h1 _ ih => exact .cons h1 ih
theorem gappyU {t : Tb} (g : GoodU t) (a c : Str) : GoodU (chT (.gappy a c) t) := by
  refine ⟨⟨?_, fun q hq => ?_, fun q hq => ?_, ?_, ?_⟩, fun r hr => ?_, g.ln⟩
  · show ((t.cols.map fun q => (q.1, q.2.1, q.2.2 || q.1 == c)).map (·.1)).Nodup
    rw [List.map_map]; exact g.g.nd
  · obtain ⟨q', h', rfl⟩ := List.mem_map.mp hq
    exact g.g.nm q' h'
  · obtain ⟨q', h', rfl⟩ := List.mem_map.mp hq
    exact g.g.kd q' h'
  · show t.cols.map _ ≠ []
    rw [Ne, List.map_eq_nil_iff]; exact g.g.ne
  · show (t.cols.map _).length ≤ 10
    rw [List.length_map]; exact g.g.ln
  · refine rowok_map (fun q v h => ?_) (g.rs r hr)
    rcases h with h | ⟨h1, h2⟩
    · exact .inl h
    · exact .inr ⟨by show (q.2.2 || _) = true; rw [h1, Bool.true_or], h2⟩
theorem chT_good {t : Tb} (g : GoodT t) {h : Ch} (hk : ChOk h) : GoodU (chT h t) := by
  have gu := goodU_of g
  cases h with
  | moved a b => exact gu
  | gappy a c => exact gappyU gu a c
  | called a c d =>
    have hd : d ∈ fresh5 := hk
    refine ⟨⟨?_, fun q hq => ?_, fun q hq => ?_, ?_, ?_⟩, fun r hr => ?_, g.ln⟩
    · show ((t.cols.map fun q => ((if q.1 = c then d else q.1), q.2)).map (·.1)).Nodup
      rw [List.map_map]
      have nd := g.g.nd
      rw [List.Nodup, List.pairwise_map] at nd ⊢
      refine List.Pairwise.imp_of_mem (fun {x y} hx hy h => ?_) nd
      show (if x.1 = c then d else x.1) ≠ (if y.1 = c then d else y.1)
      have nx : x.1 ≠ d := fun z => fresh_new d hd (z ▸ g.g.nm x hx)
      have ny : y.1 ≠ d := fun z => fresh_new d hd (z ▸ g.g.nm y hy)
      split <;> split
      · rename_i e1 e2; exact fun _ => h (e1.trans e2.symm)
      · exact fun z => ny z.symm
      · exact nx
      · exact h
    · obtain ⟨q', h', rfl⟩ := List.mem_map.mp hq
      show (if q'.1 = c then d else q'.1) ∈ names12
      split
      · exact List.mem_append_right _ hd
      · exact gu.g.nm q' h'
    · obtain ⟨q', h', rfl⟩ := List.mem_map.mp hq
      exact gu.g.kd q' h'
    · show t.cols.map _ ≠ []
      rw [Ne, List.map_eq_nil_iff]; exact g.ne
    · show (t.cols.map _).length ≤ 10
      rw [List.length_map]; exact gu.g.ln
    · exact rowok_map (f := fun q => ((if q.1 = c then d else q.1), q.2)) (fun q v h => h) (g.rs r hr)
  | wider a c s m v =>
    obtain ⟨hc, hs, hv⟩ := (hk : c ∈ fresh5 ∧ s ∈ sorts3 ∧ VOk (c, s, m) v)
    have l7 := good_len g.g
    refine ⟨⟨?_, fun q hq => ?_, fun q hq => ?_, ?_, ?_⟩, fun r hr => ?_, ?_⟩
    · show ((t.cols ++ [(c, s, m)]).map (·.1)).Nodup
      rw [List.map_append, List.nodup_append]
      refine ⟨g.g.nd, by simp, fun x hx y hy e => ?_⟩
      simp at hy
      subst hy
      obtain ⟨q, hq, rfl⟩ := List.mem_map.mp hx
      exact fresh_new y hc (e ▸ g.g.nm q hq)
    · rcases List.mem_append.mp hq with hq | hq
      · exact gu.g.nm q hq
      · rw [List.mem_singleton] at hq; subst hq; exact List.mem_append_right _ hc
    · rcases List.mem_append.mp hq with hq | hq
      · exact gu.g.kd q hq
      · rw [List.mem_singleton] at hq; subst hq; exact hs
    · show t.cols ++ [(c, s, m)] ≠ []
      simp
    · show (t.cols ++ [(c, s, m)]).length ≤ 10
      rw [List.length_append]; simp; omega
    · obtain ⟨r', h', rfl⟩ := List.mem_map.mp hr
      exact rowok_snoc hv (g.rs r' h')
    · show (t.rows.map _).length ≤ 10
      rw [List.length_map]; exact g.ln
/-! rising -/
theorem rising_of {hs : List (Str × Tb)} (h : hs.Pairwise (fun a b => leT a.1 b.1 = true)) (nd : (hs.map (·.1)).Nodup) : rising (hs.map entD) = true := by
  unfold rising
  rw [List.all_eq_true]
  intro d hd
  obtain ⟨k, rfl, k0, k1⟩ := mem_range hd
  rw [List.length_map] at k1
  have hk : k.toNat < hs.length := by omega
  have hj : (k - 1).toNat < hs.length := by omega
  have at1 : ∀ (i : Int) (h0 : 0 ≤ i) (hi : i.toNat < hs.length), nameOf ((L2.atI (hs.map entD) i).getD .none) = hs[i.toNat].1 := fun i h0 hi => by
    have := atI_nat (xs := hs.map entD) (j := i.toNat) (v := entD hs[i.toNat]) (by simp [hi])
    rw [show ((i.toNat : Nat) : Int) = i by omega] at this
    rw [this]; rfl
  have e := ltAt_eq (at1 (k - 1) (by omega) hj) (at1 k (by omega) hk)
  show ltAt (hs.map entD) k = true
  rw [e]
  have lt : (k - 1).toNat < k.toNat := by omega
  have h1 := (List.pairwise_iff_getElem.mp h) _ _ hj hk lt
  have h2 : hs[(k - 1).toNat].1 ≠ hs[k.toNat].1 := by
    have := List.pairwise_iff_getElem.mp nd (k - 1).toNat k.toNat (by rw [List.length_map]; exact hj) (by rw [List.length_map]; exact hk) lt
    simpa using this
  refine decide_eq_true ?_
  rcases Classical.em ((hs[(k - 1).toNat].1).cps.toList < (hs[k.toNat].1).cps.toList) with q | q
  · exact q
  · exact absurd (leT_anti h1 (by
      show (!decide _) = true
      rw [decide_eq_false q]; rfl)) h2
structure HsOk (hs : List (Str × Tb)) : Prop where
  l3 : hs.length = 3
  nd : (hs.map (·.1)).Nodup
  so : hs.Pairwise (fun a b => leT a.1 b.1 = true)
  nm : ∀ p ∈ hs, p.1 ∈ pqr ++ moved5
  g : ∀ p ∈ hs, GoodU p.2
theorem pqrm_ok : (∀ x ∈ pqr ++ moved5, isName (.str x) = true) ∧ ∀ x ∈ pqr ++ moved5, fine 10 (.str x) = true := by decide +kernel
theorem houseU {hs : List (Str × Tb)} (h : HsOk hs) : isHouse (houseD hs) = true ∧ fine 10 (houseD hs) = true := by
  constructor
  · simp only [houseD, isHouse, rising_of h.so h.nd, Bool.and_true]
    rw [List.all_eq_true]
    intro d hd
    obtain ⟨p, hp, rfl⟩ := List.mem_map.mp hd
    show (isName (.str p.1) && isTable (tabD p.2)) = true
    rw [pqrm_ok.1 _ (h.nm p hp), tableU (h.g p hp)]; rfl
  · rw [houseD, fine_tuple]
    refine ⟨by rw [List.length_map, h.l3]; omega, fun d hd => ?_⟩
    obtain ⟨p, hp, rfl⟩ := List.mem_map.mp hd
    exact fine_t1 (by omega) (pqrm_ok.2 _ (h.nm p hp)) (finesU (h.g p hp))
theorem moved_nodup : ∀ a ∈ pqr, ∀ b ∈ moved5, (pqr.map fun x => if x = a then b else x).Nodup := by decide +kernel
theorem pqr_so : pqr.Nodup ∧ pqr.Pairwise (fun a b => leT a b = true) := by decide +kernel
theorem changed_names {hs : List (Str × Tb)} (ns : hs.map (·.1) = pqr) {h : Ch} (hk : ChOk h) : ((hs.map (chE h)).map (·.1)).Nodup ∧ (isMoved h = false → (hs.map (chE h)).map (·.1) = pqr) := by
  have e : (hs.map (chE h)).map (·.1) = pqr.map (chN h) := by rw [← ns, List.map_map, List.map_map]; rfl
  rw [e]
  cases h with
  | moved a b => exact ⟨moved_nodup a hk.1 b hk.2, fun z => nomatch z⟩
  | called a c d => exact ⟨pqr_so.1, fun _ => rfl⟩
  | wider a c s m v => exact ⟨pqr_so.1, fun _ => rfl⟩
  | gappy a c => exact ⟨pqr_so.1, fun _ => rfl⟩
theorem changed_ok {hs : List (Str × Tb)} (ns : hs.map (·.1) = pqr) (gs : ∀ p ∈ hs, GoodT p.2) {h : Ch} (hk : ChOk h) : HsOk (chHs h hs) := by
  obtain ⟨nd, _⟩ := changed_names ns hk
  have l3 : hs.length = 3 := by have := congrArg List.length ns; rw [List.length_map] at this; exact this
  refine ⟨by rw [chHs, (risB_perm _).length_eq, List.length_map, l3], ?_, risB_sorted _, fun p hp => ?_, fun p hp => ?_⟩
  · exact (((risB_perm _).map (·.1)).nodup_iff).mpr nd
  · obtain ⟨q, hq, rfl⟩ := List.mem_map.mp ((risB_perm _).mem_iff.mp hp)
    have hq' : q.1 ∈ pqr := by rw [← ns]; exact List.mem_map.mpr ⟨q, hq, rfl⟩
    show chN h q.1 ∈ _
    cases h with
    | moved a b =>
      show (if q.1 = a then b else q.1) ∈ _
      split
      · exact List.mem_append_right _ hk.2
      · exact List.mem_append_left _ hq'
    | _ => exact List.mem_append_left _ hq'
  · obtain ⟨q, hq, rfl⟩ := List.mem_map.mp ((risB_perm _).mem_iff.mp hp)
    show GoodU (if q.1 = chAt h then chT h q.2 else q.2)
    split
    · exact chT_good (gs q hq) hk
    · exact goodU_of (gs q hq)
theorem changed_same {hs : List (Str × Tb)} (so : ((hs.map (·.1))).Pairwise (fun a b => leT a b = true)) {h : Ch} (hm : isMoved h = false) : chHs h hs = hs.map (chE h) := by
  refine ris_id _ ?_
  rw [List.pairwise_map] at so ⊢
  refine List.Pairwise.imp (fun {a b} q => ?_) so
  rw [chE_else hm, chE_else hm]
  exact q
theorem changed_eq (n : Nat) (hs : List (Str × Tb)) (ns : hs.map (·.1) = pqr) (gs : ∀ p ∈ hs, GoodT p.2) (h : Ch) (hk : ChOk h) : callF defs (n + 3) F.changed [houseD hs, chD h] = .ok (houseD (chHs h hs)) := by
  have l3 : hs.length = 3 := by have := congrArg List.length ns; rw [List.length_map] at this; exact this
  cases hm : isMoved h with
  | false =>
    rw [changed_same (by rw [ns]; exact pqr_so.2) hm]
    exact changed_else n h hm hs (by omega) fun p hp => fewU (goodU_of (gs p hp))
  | true =>
    cases h with
    | moved a b => exact changed_moved (n + 1) a b hs (by omega) (changed_names ns hk).1
    | _ => cases hm
theorem changed_heads_eq (n : Nat) (hs : List (Str × Tb)) (ns : hs.map (·.1) = pqr) (gs : ∀ p ∈ hs, GoodT p.2) (h : Ch) (hk : ChOk h) : callF defs (n + 3) F.changed_heads [headsD (hsOf hs), chD h] = .ok (headsD (hsOf (chHs h hs))) := by
  have l3 : hs.length = 3 := by have := congrArg List.length ns; rw [List.length_map] at this; exact this
  cases hm : isMoved h with
  | false =>
    rw [changed_same (by rw [ns]; exact pqr_so.2) hm]
    exact changed_heads_else n h hm hs (by omega) fun p hp => fewU (goodU_of (gs p hp))
  | true =>
    cases h with
    | moved a b => exact changed_heads_moved (n + 1) a b hs (by omega) (changed_names ns hk).1
    | _ => cases hm
/-! the law k32 -/
theorem flatU {hs : List (Str × Tb)} (h : ∀ p ∈ hs, GoodU p.2) : Flat 6 (houseD hs) := flat_house fun p hp => (h p hp).rs
theorem flat_heads (hs : Hs) : Flat 5 (headsD hs) := flat_tup fun d hd => by
  obtain ⟨p, _, rfl⟩ := List.mem_map.mp hd
  refine flat_tup fun d hd => ?_
  simp only [List.mem_cons, List.not_mem_nil, or_false] at hd
  rcases hd with rfl | rfl
  · exact flat_str _ _
  · exact flat_cols _
theorem chE_gappy_good {hs : List (Str × Tb)} (h : ∀ p ∈ hs, GoodU p.2) (a c : Str) : ∀ p ∈ hs.map (chE (.gappy a c)), GoodU p.2 := fun p hp => by
  obtain ⟨q, hq, rfl⟩ := List.mem_map.mp hp
  show GoodU (if q.1 = a then chT (.gappy a c) q.2 else q.2)
  split
  · exact gappyU (h q hq) a c
  · exact h q hq
theorem law_true (ns : List Int) (hns : ns.length ≤ 63) : callF defs deep F.law [scrD (ns.map PyData.int)] = .ok (.bool true) := by
  show callF defs (199 + 1) F.law _ = _
  rw [u_law]
  have hcell : ∀ k : Int, 0 ≤ k → callF defs 199 F.law_cell [scrD (ns.map PyData.int), .int k] = .ok (.int (cellOf ns k)) := fun k hk => cell_eq 198 ns k hk
  have hhouse := fun c : Int => house_drawn 194 c
  have hch := fun (c : Int) (a b d : Tb) (ga : GoodT a) (gb : GoodT b) (gd : GoodT d) => change_drawn 194 c a b d ga gb gd
  have hchg := fun (hs : List (Str × Tb)) (ns : hs.map (·.1) = pqr) (gs : ∀ p ∈ hs, GoodT p.2) (h : Ch) (hk : ChOk h) => changed_eq 196 hs ns gs h hk
  have hchh := fun (hs : List (Str × Tb)) (ns : hs.map (·.1) = pqr) (gs : ∀ p ∈ hs, GoodT p.2) (h : Ch) (hk : ChOk h) => changed_heads_eq 196 hs ns gs h hk
  have hlaw := fun (h : Ch) (hs : List (Str × Tb)) (hl : hs.length ≤ 60) (ht : ∀ p ∈ hs, TabFew p.2) (nd : ((hs.map (chE h)).map (·.1)).Nodup) => law_changed_eq 197 h hs hl ht nd
  have helse := fun (h : Ch) (hm : isMoved h = false) (hs : List (Str × Tb)) (hl : hs.length ≤ 60) (ht : ∀ p ∈ hs, TabFew p.2) => changed_else 196 h hm hs hl ht
  have hsame : ∀ d : D, Flat 100 d → callF defs 199 F.law_same [d, d] = .ok (.bool true) := fun d h => same_refl 198 d (Nat.le_trans h.2 (by omega)) h.1
  have hish : ∀ d : D, fine 1000 d = true → callF defs 199 F.is_house [d] = .ok (.bool (isHouse d)) := fun d h => is_house_eq 194 d h
  generalize callF defs 199 = ρ at hcell hhouse hch hchg hchh hlaw helse hsame hish ⊢
  let E : Option D → Option D → Option D → Option D → Option D → Option D → En := fun o1 o2 o3 o4 o5 o6 => [some (scrD (ns.map PyData.int)), o1, o2, o3, o4, o5, o6, none, none]
  have r4 : rng1D (.int 4) = .ok (rangeD 0 4) := rng1_ok (by omega) (by omega)
  obtain ⟨e, l, o1, o2, o3, o4, o5, o6, rfl⟩ := forD_inv (f := fun d e => ((Tg.nm 1).put d e).bind fun e' => evalSs ρ b_law_2 e') (fun env => ∃ o1 o2 o3 o4 o5 o6, env = E o1 o2 o3 o4 o5 o6) (ds := rangeD 0 4) (env := E none none none none none none) (fun d hd env he => by
    obtain ⟨o1, o2, o3, o4, o5, o6, rfl⟩ := he
    obtain ⟨k, rfl, k0, k1⟩ := mem_range hd
    have ck := hcell k k0
    have c4 := hcell 4 (by omega)
    have h7 : op2 .mul (.int 7) (.int k) = .ok (.int (7 * k)) := o2_mul (mulOk_l (by omega) (by omega))
    obtain ⟨a, b, d, ga, gb, gd, hh⟩ := hhouse (cellOf ns k + k)
    obtain ⟨h, hk, hc⟩ := hch (cellOf ns 4 + 7 * k) a b d ga gb gd
    generalize hhs : [(w_p, a), (w_q, b), (w_r, d)] = hs at hh hc
    have gs : ∀ p ∈ hs, GoodT p.2 := fun p hp => by
      subst hhs
      simp only [List.mem_cons, List.not_mem_nil, or_false] at hp
      rcases hp with rfl | rfl | rfl
      · exact ga
      · exact gb
      · exact gd
    have nn : hs.map (·.1) = pqr := by subst hhs; rfl
    have l3 : hs.length = 3 := by subst hhs; rfl
    clear hhs
    have e1 := hchg hs nn gs h hk
    have e2 := hchh hs nn gs h hk
    have e3 := hlaw h hs (by omega) (fun p hp => fewU (goodU_of (gs p hp))) (changed_names nn hk).1
    have ok := changed_ok nn gs hk
    have e4 := hsame (houseD (chHs h hs)) (flat_up (flatU ok.g) (by omega))
    have e5 := hish (houseD (chHs h hs)) (fine_mono (by omega) _ (houseU ok).2)
    rw [(houseU ok).1] at e5
    have e6 := hsame (headsD (hsOf (chHs h hs))) (flat_up (flat_heads _) (by omega))
    generalize chHs h hs = due at *
    obtain ⟨x0, x1, x2, rfl⟩ : ∃ x0 x1 x2, due = [x0, x1, x2] := by
      have := ok.l3
      match due, this with
      | [x0, x1, x2], _ => exact ⟨x0, x1, x2, rfl⟩
    have g1 := ok.g x1 (by simp)
    obtain ⟨q, qs, hq⟩ : ∃ q qs, x1.2.cols = q :: qs := by
      have := g1.g.ne
      cases hz : x1.2.cols with
      | nil => exact absurd hz this
      | cons q qs => exact ⟨q, qs, rfl⟩
    generalize hdue : [x0, x1, x2] = due at *
    have i1 : op2 .idx (houseD due) (.int 1) = .ok (entD x1) := by subst hdue; exact o2_idx_t1 _ _ _
    have few : ∀ p ∈ due, TabFew p.2 := fun p hp => fewU (ok.g p hp)
    have len : due.length ≤ 60 := by have := ok.l3; omega
    have f1 := helse (.gappy x1.1 q.1) rfl due len few
    have nd2 : ((due.map (chE (.gappy x1.1 q.1))).map (·.1)).Nodup := by
      rw [List.map_map]; exact ok.nd
    have f2 := hlaw (.gappy x1.1 q.1) due len few nd2
    rw [changed_same (List.pairwise_map.mpr ok.so) rfl] at f2
    have f3 := hsame (houseD (due.map (chE (.gappy x1.1 q.1)))) (flat_up (flatU (chE_gappy_good ok.g _ _)) (by omega))
    refine ⟨E (some (.int k)) (some (houseD hs)) (some (chD h)) (some (houseD due)) (some (headsD (hsOf hs))) (some (chD (.gappy x1.1 q.1))), ?_, _, _, _, _, _, _, rfl⟩
    have c0 : evalE ρ c_law_0 (E (some (.int k)) (some (houseD hs)) (some (chD h)) (some (houseD due)) o5 o6) = .ok (.list ((hsOf hs).map headD)) := by
      unfold c_law_0 hsOf
      refine comp_map2 hs entD _ _ (by simp only [E, houseD]; simp only [evalSs, evalS, evalE, evalEs, evalIT, Res.bind_ok, Res.bind_bad, Res.bind_exc, Res.tame_ok, Fl.go_next, Fl.go_ret, Fl.fin_next, Fl.fin_ret, slot_some, List.getElem?_cons_zero, List.getElem?_cons_succ, List.set_cons_zero, List.set_cons_succ, put_nm, put_tu, puts_nil, puts_cons, chainK_t, chainK_f, truth_bool, truth_none, truth_int, truth_list, truth_tuple, truth_str, o2_add_i, o2_sub_i, o2_lt_i, o2_le_i, o2_gt_i, o2_ge_i, o2_is_n, o2_is_b, o2_isnot_n, o2_isnot_b, o2_eq_i, o2_eq_s, o2_eq_ns, o2_eq_b, o2_ne_b, o2_idx_t0, o2_idx_t1, o1_len_scr, o1_len_t, o1_len_l, o1_len_s, o1_not_b, o1_tuple_l, o1_list_t, o1_list_l, o1_rev_t, o1_neg_i, o1_int_b, isi_s, isi_i, isi_b, isi_n, isi_t, isi_l, isTy, isNone_n, isNone_b, isNone_i, isNone_s, isNone_t, isNone_l, isBool_b, Bool.not_true, Bool.not_false, eq_self, if_true, if_false, Bool.false_eq_true, reduceIte, beq_self_eq_true, itemsOf]) fun p _ => ⟨_, by simp only [E]; simp only [evalSs, evalS, evalE, evalEs, evalIT, Res.bind_ok, Res.bind_bad, Res.bind_exc, Res.tame_ok, Fl.go_next, Fl.go_ret, Fl.fin_next, Fl.fin_ret, slot_some, List.getElem?_cons_zero, List.getElem?_cons_succ, List.set_cons_zero, List.set_cons_succ, put_nm, put_tu, puts_nil, puts_cons, chainK_t, chainK_f, truth_bool, truth_none, truth_int, truth_list, truth_tuple, truth_str, o2_add_i, o2_sub_i, o2_lt_i, o2_le_i, o2_gt_i, o2_ge_i, o2_is_n, o2_is_b, o2_isnot_n, o2_isnot_b, o2_eq_i, o2_eq_s, o2_eq_ns, o2_eq_b, o2_ne_b, o2_idx_t0, o2_idx_t1, o1_len_scr, o1_len_t, o1_len_l, o1_len_s, o1_not_b, o1_tuple_l, o1_list_t, o1_list_l, o1_rev_t, o1_neg_i, o1_int_b, isi_s, isi_i, isi_b, isi_n, isi_t, isi_l, isTy, isNone_n, isNone_b, isNone_i, isNone_s, isNone_t, isNone_l, isBool_b, Bool.not_true, Bool.not_false, eq_self, if_true, if_false, Bool.false_eq_true, reduceIte, beq_self_eq_true, entD] <;> rfl, ?_⟩
      simp only [evalSs, evalS, evalE, evalEs, evalIT, Res.bind_ok, Res.bind_bad, Res.bind_exc, Res.tame_ok, Fl.go_next, Fl.go_ret, Fl.fin_next, Fl.fin_ret, slot_some, List.getElem?_cons_zero, List.getElem?_cons_succ, List.set_cons_zero, List.set_cons_succ, put_nm, put_tu, puts_nil, puts_cons, chainK_t, chainK_f, truth_bool, truth_none, truth_int, truth_list, truth_tuple, truth_str, o2_add_i, o2_sub_i, o2_lt_i, o2_le_i, o2_gt_i, o2_ge_i, o2_is_n, o2_is_b, o2_isnot_n, o2_isnot_b, o2_eq_i, o2_eq_s, o2_eq_ns, o2_eq_b, o2_ne_b, o2_idx_t0, o2_idx_t1, o1_len_scr, o1_len_t, o1_len_l, o1_len_s, o1_not_b, o1_tuple_l, o1_list_t, o1_list_l, o1_rev_t, o1_neg_i, o1_int_b, isi_s, isi_i, isi_b, isi_n, isi_t, isi_l, isTy, isNone_n, isNone_b, isNone_i, isNone_s, isNone_t, isNone_l, isBool_b, Bool.not_true, Bool.not_false, eq_self, if_true, if_false, Bool.false_eq_true, reduceIte, beq_self_eq_true, tabD, headD]
    have c1 : evalE ρ c_law_1 (E (some (.int k)) (some (houseD hs)) (some (chD h)) (some (houseD due)) (some (headsD (hsOf hs))) o6) = .ok (.list ((hsOf due).map headD)) := by
      unfold c_law_1 hsOf
      refine comp_map2 due entD _ _ (by simp only [E, houseD]; simp only [evalSs, evalS, evalE, evalEs, evalIT, Res.bind_ok, Res.bind_bad, Res.bind_exc, Res.tame_ok, Fl.go_next, Fl.go_ret, Fl.fin_next, Fl.fin_ret, slot_some, List.getElem?_cons_zero, List.getElem?_cons_succ, List.set_cons_zero, List.set_cons_succ, put_nm, put_tu, puts_nil, puts_cons, chainK_t, chainK_f, truth_bool, truth_none, truth_int, truth_list, truth_tuple, truth_str, o2_add_i, o2_sub_i, o2_lt_i, o2_le_i, o2_gt_i, o2_ge_i, o2_is_n, o2_is_b, o2_isnot_n, o2_isnot_b, o2_eq_i, o2_eq_s, o2_eq_ns, o2_eq_b, o2_ne_b, o2_idx_t0, o2_idx_t1, o1_len_scr, o1_len_t, o1_len_l, o1_len_s, o1_not_b, o1_tuple_l, o1_list_t, o1_list_l, o1_rev_t, o1_neg_i, o1_int_b, isi_s, isi_i, isi_b, isi_n, isi_t, isi_l, isTy, isNone_n, isNone_b, isNone_i, isNone_s, isNone_t, isNone_l, isBool_b, Bool.not_true, Bool.not_false, eq_self, if_true, if_false, Bool.false_eq_true, reduceIte, beq_self_eq_true, itemsOf]) fun p _ => ⟨_, by simp only [E]; simp only [evalSs, evalS, evalE, evalEs, evalIT, Res.bind_ok, Res.bind_bad, Res.bind_exc, Res.tame_ok, Fl.go_next, Fl.go_ret, Fl.fin_next, Fl.fin_ret, slot_some, List.getElem?_cons_zero, List.getElem?_cons_succ, List.set_cons_zero, List.set_cons_succ, put_nm, put_tu, puts_nil, puts_cons, chainK_t, chainK_f, truth_bool, truth_none, truth_int, truth_list, truth_tuple, truth_str, o2_add_i, o2_sub_i, o2_lt_i, o2_le_i, o2_gt_i, o2_ge_i, o2_is_n, o2_is_b, o2_isnot_n, o2_isnot_b, o2_eq_i, o2_eq_s, o2_eq_ns, o2_eq_b, o2_ne_b, o2_idx_t0, o2_idx_t1, o1_len_scr, o1_len_t, o1_len_l, o1_len_s, o1_not_b, o1_tuple_l, o1_list_t, o1_list_l, o1_rev_t, o1_neg_i, o1_int_b, isi_s, isi_i, isi_b, isi_n, isi_t, isi_l, isTy, isNone_n, isNone_b, isNone_i, isNone_s, isNone_t, isNone_l, isBool_b, Bool.not_true, Bool.not_false, eq_self, if_true, if_false, Bool.false_eq_true, reduceIte, beq_self_eq_true, entD] <;> rfl, ?_⟩
      simp only [evalSs, evalS, evalE, evalEs, evalIT, Res.bind_ok, Res.bind_bad, Res.bind_exc, Res.tame_ok, Fl.go_next, Fl.go_ret, Fl.fin_next, Fl.fin_ret, slot_some, List.getElem?_cons_zero, List.getElem?_cons_succ, List.set_cons_zero, List.set_cons_succ, put_nm, put_tu, puts_nil, puts_cons, chainK_t, chainK_f, truth_bool, truth_none, truth_int, truth_list, truth_tuple, truth_str, o2_add_i, o2_sub_i, o2_lt_i, o2_le_i, o2_gt_i, o2_ge_i, o2_is_n, o2_is_b, o2_isnot_n, o2_isnot_b, o2_eq_i, o2_eq_s, o2_eq_ns, o2_eq_b, o2_ne_b, o2_idx_t0, o2_idx_t1, o1_len_scr, o1_len_t, o1_len_l, o1_len_s, o1_not_b, o1_tuple_l, o1_list_t, o1_list_l, o1_rev_t, o1_neg_i, o1_int_b, isi_s, isi_i, isi_b, isi_n, isi_t, isi_l, isTy, isNone_n, isNone_b, isNone_i, isNone_s, isNone_t, isNone_l, isBool_b, Bool.not_true, Bool.not_false, eq_self, if_true, if_false, Bool.false_eq_true, reduceIte, beq_self_eq_true, tabD, headD]
    have i2 : op2 .idx (.tuple (x1.2.cols.map colD)) (.int 0) = .ok (colD q) := by rw [hq]; exact o2_idx_t0 _ _
    have he : (Tg.nm 1).put (.int k) (E o1 o2 o3 o4 o5 o6) = .ok (E (some (.int k)) o2 o3 o4 o5 o6) := rfl
    rw [he]
    simp only [bind_ok]
    unfold b_law_2
    refine (seq_asg (d := houseD hs) (by simp only [E]; simp only [evalSs, evalS, evalE, evalEs, evalIT, Res.bind_ok, Res.bind_bad, Res.bind_exc, Res.tame_ok, Fl.go_next, Fl.go_ret, Fl.fin_next, Fl.fin_ret, slot_some, List.getElem?_cons_zero, List.getElem?_cons_succ, List.set_cons_zero, List.set_cons_succ, put_nm, put_tu, puts_nil, puts_cons, chainK_t, chainK_f, truth_bool, truth_none, truth_int, truth_list, truth_tuple, truth_str, o2_add_i, o2_sub_i, o2_lt_i, o2_le_i, o2_gt_i, o2_ge_i, o2_is_n, o2_is_b, o2_isnot_n, o2_isnot_b, o2_eq_i, o2_eq_s, o2_eq_ns, o2_eq_b, o2_ne_b, o2_idx_t0, o2_idx_t1, o1_len_scr, o1_len_t, o1_len_l, o1_len_s, o1_not_b, o1_tuple_l, o1_list_t, o1_list_l, o1_rev_t, o1_neg_i, o1_int_b, isi_s, isi_i, isi_b, isi_n, isi_t, isi_l, isTy, isNone_n, isNone_b, isNone_i, isNone_s, isNone_t, isNone_l, isBool_b, Bool.not_true, Bool.not_false, eq_self, if_true, if_false, Bool.false_eq_true, reduceIte, beq_self_eq_true, ck, hh])).trans ((seq_asg (d := chD h) (by simp only [E]; simp only [evalSs, evalS, evalE, evalEs, evalIT, Res.bind_ok, Res.bind_bad, Res.bind_exc, Res.tame_ok, Fl.go_next, Fl.go_ret, Fl.fin_next, Fl.fin_ret, slot_some, List.getElem?_cons_zero, List.getElem?_cons_succ, List.set_cons_zero, List.set_cons_succ, put_nm, put_tu, puts_nil, puts_cons, chainK_t, chainK_f, truth_bool, truth_none, truth_int, truth_list, truth_tuple, truth_str, o2_add_i, o2_sub_i, o2_lt_i, o2_le_i, o2_gt_i, o2_ge_i, o2_is_n, o2_is_b, o2_isnot_n, o2_isnot_b, o2_eq_i, o2_eq_s, o2_eq_ns, o2_eq_b, o2_ne_b, o2_idx_t0, o2_idx_t1, o1_len_scr, o1_len_t, o1_len_l, o1_len_s, o1_not_b, o1_tuple_l, o1_list_t, o1_list_l, o1_rev_t, o1_neg_i, o1_int_b, isi_s, isi_i, isi_b, isi_n, isi_t, isi_l, isTy, isNone_n, isNone_b, isNone_i, isNone_s, isNone_t, isNone_l, isBool_b, Bool.not_true, Bool.not_false, eq_self, if_true, if_false, Bool.false_eq_true, reduceIte, beq_self_eq_true, c4, h7, hc])).trans ((seq_asg (d := houseD due) (by simp only [E]; simp only [evalSs, evalS, evalE, evalEs, evalIT, Res.bind_ok, Res.bind_bad, Res.bind_exc, Res.tame_ok, Fl.go_next, Fl.go_ret, Fl.fin_next, Fl.fin_ret, slot_some, List.getElem?_cons_zero, List.getElem?_cons_succ, List.set_cons_zero, List.set_cons_succ, put_nm, put_tu, puts_nil, puts_cons, chainK_t, chainK_f, truth_bool, truth_none, truth_int, truth_list, truth_tuple, truth_str, o2_add_i, o2_sub_i, o2_lt_i, o2_le_i, o2_gt_i, o2_ge_i, o2_is_n, o2_is_b, o2_isnot_n, o2_isnot_b, o2_eq_i, o2_eq_s, o2_eq_ns, o2_eq_b, o2_ne_b, o2_idx_t0, o2_idx_t1, o1_len_scr, o1_len_t, o1_len_l, o1_len_s, o1_not_b, o1_tuple_l, o1_list_t, o1_list_l, o1_rev_t, o1_neg_i, o1_int_b, isi_s, isi_i, isi_b, isi_n, isi_t, isi_l, isTy, isNone_n, isNone_b, isNone_i, isNone_s, isNone_t, isNone_l, isBool_b, Bool.not_true, Bool.not_false, eq_self, if_true, if_false, Bool.false_eq_true, reduceIte, beq_self_eq_true, e3])).trans ?_))
    refine (seq_if_f (d := .bool false) (by simp only [E]; simp only [evalSs, evalS, evalE, evalEs, evalIT, Res.bind_ok, Res.bind_bad, Res.bind_exc, Res.tame_ok, Fl.go_next, Fl.go_ret, Fl.fin_next, Fl.fin_ret, slot_some, List.getElem?_cons_zero, List.getElem?_cons_succ, List.set_cons_zero, List.set_cons_succ, put_nm, put_tu, puts_nil, puts_cons, chainK_t, chainK_f, truth_bool, truth_none, truth_int, truth_list, truth_tuple, truth_str, o2_add_i, o2_sub_i, o2_lt_i, o2_le_i, o2_gt_i, o2_ge_i, o2_is_n, o2_is_b, o2_isnot_n, o2_isnot_b, o2_eq_i, o2_eq_s, o2_eq_ns, o2_eq_b, o2_ne_b, o2_idx_t0, o2_idx_t1, o1_len_scr, o1_len_t, o1_len_l, o1_len_s, o1_not_b, o1_tuple_l, o1_list_t, o1_list_l, o1_rev_t, o1_neg_i, o1_int_b, isi_s, isi_i, isi_b, isi_n, isi_t, isi_l, isTy, isNone_n, isNone_b, isNone_i, isNone_s, isNone_t, isNone_l, isBool_b, Bool.not_true, Bool.not_false, eq_self, if_true, if_false, Bool.false_eq_true, reduceIte, beq_self_eq_true, e1, e4, e5]) rfl rfl).trans ?_
    refine (seq_asg (d := headsD (hsOf hs)) (by rw [evalE]; refine (congrArg (fun r => Res.bind r _) c0).trans rfl)).trans ?_
    simp only [E] at c1
    have e6' : ρ F.law_same [headsD (hsOf due), .tuple ((hsOf due).map headD)] = .ok (.bool true) := e6
    refine (seq_if_f (d := .bool false) (by simp only [E]; simp only [evalSs, evalS, evalE, evalEs, evalIT, Res.bind_ok, Res.bind_bad, Res.bind_exc, Res.tame_ok, Fl.go_next, Fl.go_ret, Fl.fin_next, Fl.fin_ret, slot_some, List.getElem?_cons_zero, List.getElem?_cons_succ, List.set_cons_zero, List.set_cons_succ, put_nm, put_tu, puts_nil, puts_cons, chainK_t, chainK_f, truth_bool, truth_none, truth_int, truth_list, truth_tuple, truth_str, o2_add_i, o2_sub_i, o2_lt_i, o2_le_i, o2_gt_i, o2_ge_i, o2_is_n, o2_is_b, o2_isnot_n, o2_isnot_b, o2_eq_i, o2_eq_s, o2_eq_ns, o2_eq_b, o2_ne_b, o2_idx_t0, o2_idx_t1, o1_len_scr, o1_len_t, o1_len_l, o1_len_s, o1_not_b, o1_tuple_l, o1_list_t, o1_list_l, o1_rev_t, o1_neg_i, o1_int_b, isi_s, isi_i, isi_b, isi_n, isi_t, isi_l, isTy, isNone_n, isNone_b, isNone_i, isNone_s, isNone_t, isNone_l, isBool_b, Bool.not_true, Bool.not_false, eq_self, if_true, if_false, Bool.false_eq_true, reduceIte, beq_self_eq_true, e2, c1, e6']) rfl rfl).trans ?_
    refine (seq_asg (d := chD (.gappy x1.1 q.1)) (by simp only [E]; simp only [evalSs, evalS, evalE, evalEs, evalIT, Res.bind_ok, Res.bind_bad, Res.bind_exc, Res.tame_ok, Fl.go_next, Fl.go_ret, Fl.fin_next, Fl.fin_ret, slot_some, List.getElem?_cons_zero, List.getElem?_cons_succ, List.set_cons_zero, List.set_cons_succ, put_nm, put_tu, puts_nil, puts_cons, chainK_t, chainK_f, truth_bool, truth_none, truth_int, truth_list, truth_tuple, truth_str, o2_add_i, o2_sub_i, o2_lt_i, o2_le_i, o2_gt_i, o2_ge_i, o2_is_n, o2_is_b, o2_isnot_n, o2_isnot_b, o2_eq_i, o2_eq_s, o2_eq_ns, o2_eq_b, o2_ne_b, o2_idx_t0, o2_idx_t1, o1_len_scr, o1_len_t, o1_len_l, o1_len_s, o1_not_b, o1_tuple_l, o1_list_t, o1_list_l, o1_rev_t, o1_neg_i, o1_int_b, isi_s, isi_i, isi_b, isi_n, isi_t, isi_l, isTy, isNone_n, isNone_b, isNone_i, isNone_s, isNone_t, isNone_l, isBool_b, Bool.not_true, Bool.not_false, eq_self, if_true, if_false, Bool.false_eq_true, reduceIte, beq_self_eq_true, i1, entD, tabD, i2, colD, chD])).trans ?_
    exact (seq_if_f (d := .bool false) (by simp only [E]; simp only [evalSs, evalS, evalE, evalEs, evalIT, Res.bind_ok, Res.bind_bad, Res.bind_exc, Res.tame_ok, Fl.go_next, Fl.go_ret, Fl.fin_next, Fl.fin_ret, slot_some, List.getElem?_cons_zero, List.getElem?_cons_succ, List.set_cons_zero, List.set_cons_succ, put_nm, put_tu, puts_nil, puts_cons, chainK_t, chainK_f, truth_bool, truth_none, truth_int, truth_list, truth_tuple, truth_str, o2_add_i, o2_sub_i, o2_lt_i, o2_le_i, o2_gt_i, o2_ge_i, o2_is_n, o2_is_b, o2_isnot_n, o2_isnot_b, o2_eq_i, o2_eq_s, o2_eq_ns, o2_eq_b, o2_ne_b, o2_idx_t0, o2_idx_t1, o1_len_scr, o1_len_t, o1_len_l, o1_len_s, o1_not_b, o1_tuple_l, o1_list_t, o1_list_l, o1_rev_t, o1_neg_i, o1_int_b, isi_s, isi_i, isi_b, isi_n, isi_t, isi_l, isTy, isNone_n, isNone_b, isNone_i, isNone_s, isNone_t, isNone_l, isBool_b, Bool.not_true, Bool.not_false, eq_self, if_true, if_false, Bool.false_eq_true, reduceIte, beq_self_eq_true, f1, f2, f3]) rfl rfl).trans rfl) ⟨none, none, none, none, none, none, rfl⟩
  exact fin_of ((seq_for (it_rng1 (i := 4) (by simp only [evalSs, evalS, evalE, evalEs, evalIT, Res.bind_ok, Res.bind_bad, Res.bind_exc, Res.tame_ok, Fl.go_next, Fl.go_ret, Fl.fin_next, Fl.fin_ret, slot_some, List.getElem?_cons_zero, List.getElem?_cons_succ, List.set_cons_zero, List.set_cons_succ, put_nm, put_tu, puts_nil, puts_cons, chainK_t, chainK_f, truth_bool, truth_none, truth_int, truth_list, truth_tuple, truth_str, o2_add_i, o2_sub_i, o2_lt_i, o2_le_i, o2_gt_i, o2_ge_i, o2_is_n, o2_is_b, o2_isnot_n, o2_isnot_b, o2_eq_i, o2_eq_s, o2_eq_ns, o2_eq_b, o2_ne_b, o2_idx_t0, o2_idx_t1, o1_len_scr, o1_len_t, o1_len_l, o1_len_s, o1_not_b, o1_tuple_l, o1_list_t, o1_list_l, o1_rev_t, o1_neg_i, o1_int_b, isi_s, isi_i, isi_b, isi_n, isi_t, isi_l, isTy, isNone_n, isNone_b, isNone_i, isNone_s, isNone_t, isNone_l, isBool_b, Bool.not_true, Bool.not_false, eq_self, if_true, if_false, Bool.false_eq_true, reduceIte, beq_self_eq_true]) r4) l).trans (seq_ret (by simp only [evalSs, evalS, evalE, evalEs, evalIT, Res.bind_ok, Res.bind_bad, Res.bind_exc, Res.tame_ok, Fl.go_next, Fl.go_ret, Fl.fin_next, Fl.fin_ret, slot_some, List.getElem?_cons_zero, List.getElem?_cons_succ, List.set_cons_zero, List.set_cons_succ, put_nm, put_tu, puts_nil, puts_cons, chainK_t, chainK_f, truth_bool, truth_none, truth_int, truth_list, truth_tuple, truth_str, o2_add_i, o2_sub_i, o2_lt_i, o2_le_i, o2_gt_i, o2_ge_i, o2_is_n, o2_is_b, o2_isnot_n, o2_isnot_b, o2_eq_i, o2_eq_s, o2_eq_ns, o2_eq_b, o2_ne_b, o2_idx_t0, o2_idx_t1, o1_len_scr, o1_len_t, o1_len_l, o1_len_s, o1_not_b, o1_tuple_l, o1_list_t, o1_list_l, o1_rev_t, o1_neg_i, o1_int_b, isi_s, isi_i, isi_b, isi_n, isi_t, isi_l, isTy, isNone_n, isNone_b, isNone_i, isNone_s, isNone_t, isNone_l, isBool_b, Bool.not_true, Bool.not_false, eq_self, if_true, if_false, Bool.false_eq_true, reduceIte, beq_self_eq_true])))
end Tq
open PySem PySem.W PySem.Calls PyProof.Rows
theorem PySem.Challenge.cw_tablequest_k32_tables_changed_holds : PySem.Challenge.rw_tablequest_k32_tables_changed.Holds := by
  w_on; o_law
  refine HandSHeadRun.head_any (r := Tq.R) (q := PySem.W.view Tq.R.prog [33]) (H := Tq.hk) (ob := Tq.ob) (M := 2500) (loose := Tq.loose)
    (d := HandSHeadRun.topDef Tq.R.prog 33) (kwd := []) Tq.ob_eq (by kernel_rfl) (fun s => by kernel_rfl) Tq.run (by kernel_rfl) (by kernel_rfl) (by kernel_rfl) (by rfl)
    (by first | assumption | decide +kernel) (by decide +kernel) ⟨rfl, rfl, rfl, rfl, rfl, by decide +kernel⟩ ?hw ?hc
  case hw => w_witness2
  case hc =>
    exact Tq.walk_tq (l := PySem.Challenge.rw_tablequest_k32_tables_changed) rfl (by kernel_rfl) (Tq.L.getD 27 default) (List.mem_iff_getElem?.mpr ⟨27, by rfl⟩) (by kernel_rfl) (by decide +kernel) (fun p hp => List.all_eq_true.mp Tq.checked p hp) Tq.all_in Tq.law_true
