import PyProof.Rows.All
import Wide.All
import OpenK.AllK
import Wide.FinOn
import HandS.ForMost
import HandS.Exc
import HandS.ExcOwn
import HandS.CallSlots
import HandS.WordsExc
import HandS.Flow
import HandS.IsInst
import HandS.TupAny
import HandS.TupLe
import HandS.Walk
import HandS.Defaults
import HandS.HeadHook2
import HandS.HeadEnd
import HandS.Head0
import HandS.Head1
import HandS.Head2
import HandS.HeadHook1
import KE.KStateDown
import HandS.More
import PySem.Challenge.RW_tablequest_k01_values_and_kinds
set_option Elab.async false
set_option linter.all false
set_option maxRecDepth 100000
set_option maxHeartbeats 0
/-! Tq, part A: plain values, a small language IE / IS, its evaluator. -/
namespace Tq
open PySem L2

abbrev D := PyData

inductive Res (α : Type) where
  | ok (a : α)
  | exc (c : Str) (fs : List D)
  | bad
namespace Res
variable {α β : Type}
def bind (r : Res α) (f : α → Res β) : Res β := match r with
  | .ok a => f a
  | .exc c fs => .exc c fs
  | .bad => .bad
@[simp] theorem bind_ok (a : α) (f : α → Res β) : (Res.ok a).bind f = f a := rfl
@[simp] theorem bind_exc (c : Str) (fs : List D) (f : α → Res β) : (Res.exc c fs : Res α).bind f = .exc c fs := rfl
@[simp] theorem bind_bad (f : α → Res β) : (Res.bad : Res α).bind f = .bad := rfl
/-- an exception is not let by -/
def tame (r : Res α) : Res α := match r with
  | .ok a => .ok a
  | _ => .bad
@[simp] theorem tame_ok (a : α) : (Res.ok a).tame = .ok a := rfl
end Res
open Res

abbrev En := List (Option D)

/-! ### the language -/
inductive Op1 where
  | neg | not | len | tuple | list | any | all | sum | least | most | int | bool | str | upper | lenSet | sortSet | sorted | dict | rev
  deriving DecidableEq
inductive Op2 where
  | add | sub | mul | mod | fdiv | pow | eq | ne | lt | le | gt | ge | is | isnot | in_ | notin | idx | fm | to | min2 | max2 | index | join | count
  deriving DecidableEq
inductive Op3 where
  | sl | get | replace
  deriving DecidableEq
inductive Ty where
  | int | str | bool | tuple | list | intstr
  deriving DecidableEq
mutual
inductive Tg where
  | nm (i : Nat)
  | tu (ts : Tgs)
inductive Tgs where
  | nil
  | cons (t : Tg) (ts : Tgs)
end
mutual
inductive IE where
  | var (i : Nat)
  | non
  | bl (b : Bool)
  | int (i : Int)
  | str (x : Str)
  | glob (x : Str) (d : D)
  | tup (es : IEs)
  | lst (es : IEs)
  | o1 (op : Op1) (a : IE)
  | o2 (op : Op2) (a b : IE)
  | o3 (op : Op3) (a b c : IE)
  | isi (a : IE) (t : Ty)
  | and_ (a b : IE)
  | or_ (a b : IE)
  | ifE (c a b : IE)
  | chain (o p : Op2) (a b c : IE)
  | call (f : Nat) (es : IEs)
  | comp (t : Tg) (it : IT) (elt : IE)
  | compIf (t : Tg) (it : IT) (c elt : IE)
inductive IEs where
  | nil
  | cons (e : IE) (es : IEs)
inductive IT where
  | seq (e : IE)
  | rng1 (a : IE)
  | rng2 (a b : IE)
  | enum (e : IE)
  | zip (a b : IE)
  | rev (e : IE)
end

/-! ### what the operations come to -/
def fits (n : Nat) : Bool := decide (n ≤ sizeLine)
def truth : D → Res Bool
  | .none => .ok false
  | .bool b => .ok b
  | .int i => .ok (i != 0)
  | .str s => .ok (s.length != 0)
  | .list xs => .ok (!xs.isEmpty)
  | .tuple xs => .ok (!xs.isEmpty)
  | .dict _ => .bad
def boolsD : List D → Option (List Bool)
  | [] => some []
  | .bool b :: r => (boolsD r).map (b :: ·)
  | _ :: _ => none
def intsD : List D → Option (List Int)
  | [] => some []
  | .int i :: r => (intsD r).map (i :: ·)
  | _ :: _ => none
def strsD : List D → Option (List Str)
  | [] => some []
  | .str x :: r => (strsD r).map (x :: ·)
  | _ :: _ => none
def isTy : D → Ty → Bool
  | .int _, .int => true
  | .bool _, .int => true
  | .bool _, .bool => true
  | .str _, .str => true
  | .tuple _, .tuple => true
  | .list _, .list => true
  | .int _, .intstr => true
  | .bool _, .intstr => true
  | .str _, .intstr => true
  | _, _ => false
def isiD (t : Ty) : D → Res D
  | .dict _ => .bad
  | d => .ok (.bool (isTy d t))
def lenD : D → Res D
  | .str s => .ok (.int s.length)
  | .list xs => .ok (.int xs.length)
  | .tuple xs => .ok (.int xs.length)
  | .dict [(.none, .list xs)] => .ok (.int xs.length)
  | _ => .bad
def tupleD : D → Res D
  | .list xs => .ok (.tuple xs)
  | .tuple xs => .ok (.tuple xs)
  | _ => .bad
def listD : D → Res D
  | .list xs => .ok (.list xs)
  | .tuple xs => .ok (.list xs)
  | _ => .bad
def anyD : D → Res D
  | .list xs => match boolsD xs with | some bs => .ok (.bool (bs.any id)) | none => .bad
  | _ => .bad
def allD : D → Res D
  | .list xs => match boolsD xs with | some bs => .ok (.bool (bs.all id)) | none => .bad
  | _ => .bad
def negD : D → Res D
  | .int i => .ok (.int (-i))
  | _ => .bad
def intD : D → Res D
  | .bool b => .ok (.int (if b then 1 else 0))
  | .int i => .ok (.int i)
  | _ => .bad
def notD (d : D) : Res D := (truth d).bind fun b => .ok (.bool (!b))
def op1 : Op1 → D → Res D
  | .neg => negD
  | .not => notD
  | .len => lenD
  | .tuple => tupleD
  | .list => listD
  | .any => anyD
  | .all => allD
  | .int => intD
  | _ => fun _ => .bad
/-! no dict within -/
mutual
def noDict : D → Bool
  | .none | .bool _ | .int _ | .str _ => true
  | .list xs | .tuple xs => noDicts xs
  | .dict _ => false
def noDicts : List D → Bool
  | [] => true
  | x :: xs => noDict x && noDicts xs
end
/-- == is asked of data that is shallow on one side -/
def eqOk (a b : D) : Bool := noDict a && noDict b && decide (min a.depth b.depth ≤ 60)
def inOk (a : D) (ds : List D) : Bool := noDict a && noDicts ds && decide (min (PyData.depthAll ds) a.depth ≤ 60)
def addD : D → D → Res D
  | .int i, .int j => .ok (.int (i + j))
  | .str x, .str y => if fits (x.length + y.length) then .ok (.str (x ++ y)) else .bad
  | .list x, .list y => if fits (x.length + y.length) then .ok (.list (x ++ y)) else .bad
  | .tuple x, .tuple y => if fits (x.length + y.length) then .ok (.tuple (x ++ y)) else .bad
  | _, _ => .bad
def int2D (f : Int → Int → Res D) : D → D → Res D
  | .int i, .int j => f i j
  | _, _ => .bad
def subD : D → D → Res D := int2D fun i j => .ok (.int (i - j))
def mulOk (i j : Int) : Bool := decide ((-(2 ^ 64) < i ∧ i < 2 ^ 64) ∨ (-(2 ^ 64) < j ∧ j < 2 ^ 64))
def mulD : D → D → Res D := int2D fun i j => if mulOk i j then .ok (.int (i * j)) else .bad
def modD : D → D → Res D := int2D fun i j => if decide (0 < j) then .ok (.int (i % j)) else .bad
def powD : D → D → Res D := int2D fun i j => if decide (0 ≤ j ∧ j ≤ 1000000 ∧ i.natAbs < 2 ^ 64) then .ok (.int (i ^ j.toNat)) else .bad
def eqD (a b : D) : Res D := if eqOk a b then .ok (.bool (PyData.eqv a b)) else .bad
def neD (a b : D) : Res D := if eqOk a b then .ok (.bool (!PyData.eqv a b)) else .bad
def ltD : D → D → Res D
  | .int i, .int j => .ok (.bool (decide (i < j)))
  | .str x, .str y => .ok (.bool (decide (x.cps.toList < y.cps.toList)))
  | _, _ => .bad
def leD : D → D → Res D
  | .int i, .int j => .ok (.bool (decide (i ≤ j)))
  | .str x, .str y => .ok (.bool (!decide (y.cps.toList < x.cps.toList)))
  | _, _ => .bad
def gtD : D → D → Res D := int2D fun i j => .ok (.bool (decide (j < i)))
def geD : D → D → Res D := int2D fun i j => .ok (.bool (decide (j ≤ i)))
def isNone : D → Bool
  | .none => true
  | _ => false
def isBool (b : Bool) : D → Bool
  | .bool c => c == b
  | _ => false
def isD (a : D) : D → Res D
  | .none => .ok (.bool (isNone a))
  | .bool b => .ok (.bool (isBool b a))
  | _ => .bad
def isnotD (a : D) : D → Res D
  | .none => .ok (.bool (!isNone a))
  | .bool b => .ok (.bool (!isBool b a))
  | _ => .bad
def inSeq (a : D) (ds : List D) : Res Bool := if inOk a ds then .ok (ds.any fun z => PyData.eqv z a) else .bad
def inStr (y : Str) : D → Res Bool
  | .str x => if decide (x.length = 1) then .ok (decide (x.cps.getD 0 0 ∈ y.cps.toList)) else .bad
  | _ => .bad
def inB (a : D) : D → Res Bool
  | .str y => inStr y a
  | .tuple ds => inSeq a ds
  | .list ds => inSeq a ds
  | _ => .bad
def inD (a b : D) : Res D := (inB a b).bind fun t => .ok (.bool t)
def notinD (a b : D) : Res D := (inB a b).bind fun t => .ok (.bool (!t))
def atD (xs : List D) : D → Res D
  | .int i => match atI xs i with | some d => .ok d | none => .bad
  | _ => .bad
def atS (x : Str) : D → Res D
  | .int i => match atI x.cps.toList i with | some c => .ok (.str ⟨#[c]⟩) | none => .bad
  | _ => .bad
def idxD : D → D → Res D
  | .list xs => atD xs
  | .tuple xs => atD xs
  | .dict [(.none, .list xs)] => atD xs
  | .str x => atS x
  | _ => fun _ => .bad
def joinD : D → D → Res D
  | .str s, .list ds => match strsD ds with | some xs => if fits ((xs.map Str.length).sum + xs.length * s.length) then .ok (.str (Str.join s xs)) else .bad | none => .bad
  | _, _ => .bad
def op2 : Op2 → D → D → Res D
  | .add => addD
  | .sub => subD
  | .mul => mulD
  | .mod => modD
  | .pow => powD
  | .eq => eqD
  | .ne => neD
  | .lt => ltD
  | .le => leD
  | .gt => gtD
  | .ge => geD
  | .is => isD
  | .isnot => isnotD
  | .in_ => inD
  | .notin => notinD
  | .idx => idxD
  | .join => joinD
  | _ => fun _ _ => .bad
def op3 : Op3 → D → D → D → Res D
  | _, _, _, _ => .bad

/-! ### running -/
mutual
def Tg.put : Tg → D → En → Res En
  | .nm i, d, env => .ok (env.set i (some d))
  | .tu ts, .tuple ds, env => Tgs.put ts ds env
  | .tu _, _, _ => .bad
def Tgs.put : Tgs → List D → En → Res En
  | .nil, [], env => .ok env
  | .cons t ts, d :: ds, env => (Tg.put t d env).bind fun e => Tgs.put ts ds e
  | _, _, _ => .bad
end
def eachD (f : D → Res (Option D)) : List D → Res (List D)
  | [] => .ok []
  | d :: ds => (f d).bind fun o => (eachD f ds).bind fun r => .ok (match o with | some x => x :: r | none => r)
def rangeD (lo : Int) : Nat → List D
  | 0 => []
  | n + 1 => .int lo :: rangeD (lo + 1) n
def enumD (i : Nat) : List D → List D
  | [] => []
  | d :: r => .tuple [.int i, d] :: enumD (i + 1) r
def zipD : List D → List D → List D
  | a :: r, b :: q => .tuple [a, b] :: zipD r q
  | _, _ => []
def itemsOf : D → Res (List D)
  | .list ds => .ok ds
  | .tuple ds => .ok ds
  | .str x => .ok (x.cps.toList.map fun c => .str ⟨#[c]⟩)
  | _ => .bad
def slot : Option (Option D) → Res D
  | some (some d) => .ok d
  | _ => .bad
@[simp] theorem slot_some (d : D) : slot (some (some d)) = .ok d := rfl
/-- a op b op c, behind the first answer -/
def chainK (r : Res D) : D → Res D
  | .bool true => r
  | .bool false => .ok (.bool false)
  | _ => .bad
@[simp] theorem chainK_t (r : Res D) : chainK r (.bool true) = r := rfl
@[simp] theorem chainK_f (r : Res D) : chainK r (.bool false) = .ok (.bool false) := rfl
def rng1D : D → Res (List D)
  | .int n => if decide (-(2 ^ 62) ≤ n ∧ n ≤ (sizeLine : Int)) then .ok (rangeD 0 n.toNat) else .bad
  | _ => .bad
def rng2D : D → D → Res (List D)
  | .int i, .int j => if decide (-(2 ^ 62) ≤ i ∧ i < 2 ^ 62 ∧ -(2 ^ 62) ≤ j ∧ j < 2 ^ 62 ∧ j - i ≤ (sizeLine : Int)) then .ok (rangeD i (j - i).toNat) else .bad
  | _, _ => .bad
section
variable (ρ : Nat → List D → Res D)
mutual
def evalE : IE → En → Res D
  | .var i, env => slot env[i]?
  | .non, _ => .ok .none
  | .bl b, _ => .ok (.bool b)
  | .int i, _ => .ok (.int i)
  | .str x, _ => .ok (.str x)
  | .glob _ d, _ => .ok d
  | .tup es, env => (evalEs es env).bind fun ds => .ok (.tuple ds)
  | .lst es, env => (evalEs es env).bind fun ds => .ok (.list ds)
  | .o1 op a, env => (evalE a env).bind (op1 op)
  | .o2 op a b, env => (evalE a env).bind fun x => (evalE b env).bind fun y => op2 op x y
  | .o3 op a b c, env => (evalE a env).bind fun x => (evalE b env).bind fun y => (evalE c env).bind fun z => op3 op x y z
  | .isi a t, env => (evalE a env).bind (isiD t)
  | .and_ a b, env => (evalE a env).bind fun x => (truth x).bind fun t => if t then evalE b env else .ok x
  | .or_ a b, env => (evalE a env).bind fun x => (truth x).bind fun t => if t then .ok x else evalE b env
  | .ifE c a b, env => (evalE c env).bind fun x => (truth x).bind fun t => if t then evalE a env else evalE b env
  | .chain o p a b c, env => (evalE a env).bind fun x => (evalE b env).bind fun y => (op2 o x y).bind (chainK ((evalE c env).bind fun z => op2 p y z))
  | .call f es, env => (evalEs es env).bind (ρ f)
  | .comp t it elt, env => (evalIT it env).bind fun ds => ((eachD (fun d => (t.put d env).bind fun e => (evalE elt e).bind fun x => .ok (some x)) ds).tame).bind fun r => .ok (.list r)
  | .compIf t it c elt, env => (evalIT it env).bind fun ds => ((eachD (fun d => (t.put d env).bind fun e => (evalE c e).bind fun y => (truth y).bind fun b => if b then (evalE elt e).bind fun x => .ok (some x) else .ok none) ds).tame).bind fun r => .ok (.list r)
def evalEs : IEs → En → Res (List D)
  | .nil, _ => .ok []
  | .cons e es, env => (evalE e env).bind fun d => (evalEs es env).bind fun ds => .ok (d :: ds)
def evalIT : IT → En → Res (List D)
  | .seq e, env => (evalE e env).bind itemsOf
  | .rng1 a, env => (evalE a env).bind rng1D
  | .rng2 a b, env => (evalE a env).bind fun d => (evalE b env).bind (rng2D d)
  | .enum e, env => (evalE e env).bind fun d => (itemsOf d).bind fun ds => .ok (enumD 0 ds)
  | .zip a b, env => (evalE a env).bind fun d => (evalE b env).bind fun e => (itemsOf d).bind fun xs => (itemsOf e).bind fun ys => .ok (zipD xs ys)
  | .rev e, env => (evalE e env).bind fun d => (itemsOf d).bind fun ds => .ok ds.reverse
end
end

/-! ### statements -/
mutual
inductive IS where
  | pass
  | asg (t : Tg) (e : IE)
  | par (i j : Nat) (a b : IE)
  | mset (i : Nat) (e : IE)
  | app (i : Nat) (e : IE)
  | ret (e : IE)
  | if_ (c : IE) (a b : ISs)
  | for_ (t : Tg) (it : IT) (body : ISs)
inductive ISs where
  | nil
  | cons (s : IS) (ss : ISs)
end
inductive Fl where
  | next (env : En)
  | ret (d : D)
def Fl.go (f : En → Res Fl) : Fl → Res Fl
  | .next e => f e
  | .ret d => .ok (.ret d)
def Fl.fin : Fl → Res D
  | .next _ => .ok .none
  | .ret d => .ok d
/-- a list grown by one -/
def appD (env : En) (i : Nat) (d : D) : Option (Option D) → Res Fl
  | some (some (.list ds)) => if decide (ds.length < sizeLine) then .ok (.next (env.set i (some (.list (ds ++ [d]))))) else .bad
  | _ => .bad
@[simp] theorem Fl.go_next (f : En → Res Fl) (e : En) : Fl.go f (.next e) = f e := rfl
@[simp] theorem Fl.go_ret (f : En → Res Fl) (d : D) : Fl.go f (.ret d) = .ok (.ret d) := rfl
@[simp] theorem Fl.fin_next (e : En) : Fl.fin (.next e) = .ok .none := rfl
@[simp] theorem Fl.fin_ret (d : D) : Fl.fin (.ret d) = .ok d := rfl
section
variable (ρ : Nat → List D → Res D)
def forD (f : D → En → Res Fl) : List D → En → Res Fl
  | [], env => .ok (.next env)
  | d :: ds, env => (f d env).bind (Fl.go (forD f ds))
mutual
def evalS : IS → En → Res Fl
  | .pass, env => .ok (.next env)
  | .asg t e, env => (evalE ρ e env).bind fun d => (t.put d env).bind fun e => .ok (.next e)
  | .par i j a b, env => (evalE ρ a env).bind fun x => (evalE ρ b env).bind fun y => .ok (.next ((env.set i (some x)).set j (some y)))
  | .mset i e, env => (evalE ρ e env).bind fun d => .ok (.next (env.set i (some d)))
  | .app i e, env => (evalE ρ e env).bind fun d => appD env i d env[i]?
  | .ret e, env => (evalE ρ e env).bind fun d => .ok (.ret d)
  | .if_ c a b, env => (evalE ρ c env).bind fun x => (truth x).bind fun t => if t then evalSs a env else evalSs b env
  | .for_ t it body, env => (evalIT ρ it env).bind fun ds => forD (fun d e => (t.put d e).bind fun e' => evalSs body e') ds env
def evalSs : ISs → En → Res Fl
  | .nil, env => .ok (.next env)
  | .cons s ss, env => (evalS s env).bind (Fl.go (evalSs ss))
end
end
structure FDef where
  n : Nat
  arity : Nat
  body : ISs
def runF (ρ : Nat → List D → Res D) (fd : FDef) (ds : List D) : Res D :=
  if ds.length = fd.arity then (evalSs ρ fd.body (ds.map some ++ List.replicate (fd.n - ds.length) none)).bind Fl.fin
  else .bad
def callF (defs : Nat → Option FDef) : Nat → Nat → List D → Res D
  | 0, _, _ => .bad
  | k + 1, f, ds => match defs f with
    | some fd => runF (callF defs k) fd ds
    | none => .bad
end Tq

/-! Tq, part B: how plain values stand in the heap. -/
namespace Tq
open PySem L2 Res

/-! ### the heap without some places -/
def hide (H : Hp) (Ps : List Addr) : Hp := fun a => if a ∈ Ps then none else H a
theorem hide_out {H : Hp} {Ps : List Addr} {a : Addr} (h : a ∉ Ps) : hide H Ps a = H a := if_neg h
theorem hide_in {H : Hp} {Ps : List Addr} {a : Addr} (h : a ∈ Ps) : hide H Ps a = none := if_pos h
theorem hide_some {H : Hp} {Ps : List Addr} {a : Addr} {o : HO} (h : hide H Ps a = some o) : a ∉ Ps ∧ H a = some o := by
  by_cases ha : a ∈ Ps
  · rw [hide_in ha] at h; cases h
  · rw [hide_out ha] at h; exact ⟨ha, h⟩
theorem hide_le (H : Hp) (Ps : List Addr) : Same (hide H Ps) H := fun _ _ h => (hide_some h).2
theorem hide_mono {H H' : Hp} (h : Same H H') (Ps : List Addr) : Same (hide H Ps) (hide H' Ps) := fun a o q => by
  obtain ⟨h1, h2⟩ := hide_some q
  rw [hide_out h1]; exact h _ _ h2
theorem hide_nil (H : Hp) : hide H [] = H := by
  funext a; exact hide_out (by simp)
theorem same_upd {H : Hp} {p : Addr} {o : HO} (h : H p = none) : Same H (upd H p o) := fun b u q => by rw [upd_ne (ne_of_none q h)]; exact q
theorem seqT {K : PySem.W.Frag} {H H' : Hp} {a : Addr} {xs : List V} (e : Same H H') (h : SqT K H a xs) : SqT K H' a xs := by
  rcases h with (h | ⟨o, h⟩) | h
  · exact .inl (.inl (e _ _ h))
  · exact .inl (.inr ⟨o, e _ _ h⟩)
  · exact .inr h
/-- from one heap and its hidden places to another -/
structure Keep (Ps : List Addr) (H : Hp) (Ps' : List Addr) (H' : Hp) : Prop where
  view : Same (hide H Ps) (hide H' Ps')
  priv : ∀ p ∈ Ps, p ∈ Ps' ∧ H' p = H p
  dom : ∀ q ∈ Ps', H' q ≠ none
theorem Keep.same {Ps : List Addr} {H H' : Hp} (dom : ∀ q ∈ Ps, H q ≠ none) (h : Same H H') : Keep Ps H Ps H' where
  view := hide_mono h Ps
  priv := fun p hp => ⟨hp, by
    cases q : H p with
    | none => exact absurd q (dom p hp)
    | some o => exact h _ _ q⟩
  dom := fun q hq z => dom q hq (h.free z)
theorem Keep.trans {Ps Ps1 Ps2 : List Addr} {H H1 H2 : Hp} (a : Keep Ps H Ps1 H1) (b : Keep Ps1 H1 Ps2 H2) : Keep Ps H Ps2 H2 where
  view := a.view.trans b.view
  priv := fun p hp => ⟨(b.priv p (a.priv p hp).1).1, (b.priv p (a.priv p hp).1).2.trans (a.priv p hp).2⟩
  dom := b.dom
/-- a new hidden object -/
theorem Keep.new {Ps : List Addr} {H : Hp} {p : Addr} {o : HO} (dom : ∀ q ∈ Ps, H q ≠ none) (h : H p = none) : Keep Ps H (p :: Ps) (upd H p o) where
  view := fun a u q => by
    obtain ⟨h1, h2⟩ := hide_some q
    have ne : a ≠ p := ne_of_none h2 h
    rw [hide_out (by simp [ne, h1]), upd_ne ne]; exact h2
  priv := fun q hq => ⟨List.mem_cons_of_mem _ hq, upd_ne fun z => dom q hq (z ▸ h)⟩
  dom := fun q hq z => by
    by_cases e : q = p
    · subst e; rw [upd_same] at z; cases z
    · rw [upd_ne e] at z
      exact dom q ((List.mem_cons.mp hq).resolve_left e) z

/-! ### plain values in the heap -/
abbrev scrD (ds : List D) : D := .dict [(.none, .list ds)]
mutual
inductive Rp (K : PySem.W.Frag) (H : Hp) : V → D → Prop
  | non : Rp K H .non .none
  | bl (b : Bool) : Rp K H (.bl b) (.bool b)
  | int (i : Int) : Rp K H (.int i) (.int i)
  | str {x : Str} : x.length ≤ sizeLine → PyData.strOk x = true → Rp K H (.str x) (.str x)
  | lst {a : Addr} {xs : List V} {ds : List D} : H a = some (.lst xs) → RpAll K H xs ds → ds.length ≤ sizeLine → Rp K H (.ref a) (.list ds)
  | tup {a : Addr} {xs : List V} {ds : List D} : SqT K H a xs → RpAll K H xs ds → ds.length ≤ sizeLine → Rp K H (.ref a) (.tuple ds)
  | scr {a : Addr} {xs : List V} {ds : List D} : SqL K H a xs → RpAll K H xs ds → ds.length ≤ sizeLine → Rp K H (.ref a) (scrD ds)
inductive RpAll (K : PySem.W.Frag) (H : Hp) : List V → List D → Prop
  | nil : RpAll K H [] []
  | cons {v : V} {vs : List V} {d : D} {ds : List D} : Rp K H v d → RpAll K H vs ds → RpAll K H (v :: vs) (d :: ds)
end
section
variable {K : PySem.W.Frag} {H H' : Hp}
mutual
theorem Rp.mono (e : Same H H') : ∀ {v : V} {d : D}, Rp K H v d → Rp K H' v d
  | _, _, .non => .non
  | _, _, .bl b => .bl b
  | _, _, .int i => .int i
  | _, _, .str h h' => .str h h'
  | _, _, .lst h r z => .lst (e _ _ h) (RpAll.mono e r) z
  | _, _, .tup h r z => .tup (seqT e h) (RpAll.mono e r) z
  | _, _, .scr h r z => .scr (e.seq h) (RpAll.mono e r) z
theorem RpAll.mono (e : Same H H') : ∀ {vs : List V} {ds : List D}, RpAll K H vs ds → RpAll K H' vs ds
  | _, _, .nil => .nil
  | _, _, .cons h r => .cons (Rp.mono e h) (RpAll.mono e r)
end
theorem RpAll.length : ∀ {vs : List V} {ds : List D}, RpAll K H vs ds → vs.length = ds.length
  | _, _, .nil => rfl
  | _, _, .cons _ r => by rw [List.length_cons, List.length_cons, RpAll.length r]
theorem RpAll.get : ∀ {vs : List V} {ds : List D} {i : Nat} {v : V}, RpAll K H vs ds → vs[i]? = some v → ∃ d, ds[i]? = some d ∧ Rp K H v d
  | _, _, _, _, .nil, e => by simp at e
  | _, _, 0, _, .cons r _, e => by simp at e; subst e; exact ⟨_, rfl, r⟩
  | _, _, i + 1, v, .cons _ t, e => by
    obtain ⟨d, h1, h2⟩ := RpAll.get (i := i) (v := v) t (by simpa using e)
    exact ⟨d, by simpa using h1, h2⟩
theorem RpAll.getD : ∀ {vs : List V} {ds : List D} {i : Nat} {d : D}, RpAll K H vs ds → ds[i]? = some d → ∃ v, vs[i]? = some v ∧ Rp K H v d
  | _, _, _, _, .nil, e => by simp at e
  | _, _, 0, _, .cons r _, e => by simp at e; subst e; exact ⟨_, rfl, r⟩
  | _, _, i + 1, d, .cons _ t, e => by
    obtain ⟨v, h1, h2⟩ := RpAll.getD (i := i) (d := d) t (by simpa using e)
    exact ⟨v, by simpa using h1, h2⟩
theorem RpAll.append : ∀ {xs ys : List V} {ds es : List D}, RpAll K H xs ds → RpAll K H ys es → RpAll K H (xs ++ ys) (ds ++ es)
  | _, _, _, _, .nil, s => s
  | _, _, _, _, .cons r t, s => .cons r (RpAll.append t s)
theorem RpAll.take : ∀ {xs : List V} {ds : List D} (n : Nat), RpAll K H xs ds → RpAll K H (xs.take n) (ds.take n)
  | _, _, 0, _ => .nil
  | _, _, _ + 1, .nil => .nil
  | _, _, n + 1, .cons r t => .cons r (RpAll.take n t)
theorem RpAll.drop : ∀ {xs : List V} {ds : List D} (n : Nat), RpAll K H xs ds → RpAll K H (xs.drop n) (ds.drop n)
  | _, _, 0, r => r
  | _, _, _ + 1, .nil => .nil
  | _, _, n + 1, .cons _ t => RpAll.drop n t
theorem RpAll.atI {vs : List V} {ds : List D} {i : Int} {d : D} (r : RpAll K H vs ds) (h : L2.atI ds i = some d) : ∃ v, L2.atI vs i = some v ∧ Rp K H v d := by
  unfold L2.atI at h ⊢
  rw [r.length]
  cases e : ixN ds.length i with
  | none => rw [e] at h; cases h
  | some j =>
    rw [e] at h
    exact r.getD h
mutual
theorem Rp.dp : ∀ {v : V} {d : D}, Rp K H v d → noDict d = true → Dp K H v d ∧ d.canLay0 = true
  | _, _, .non, _ => ⟨.non, by simp [PyData.canLay0]⟩
  | _, _, .bl b, _ => ⟨.bl b, by simp [PyData.canLay0]⟩
  | _, _, .int i, _ => ⟨.int i, by simp [PyData.canLay0]⟩
  | _, _, .str h h', _ => ⟨.str _, by simpa [PyData.canLay0] using h'⟩
  | _, _, .lst h r z, n => by
    obtain ⟨a, b⟩ := RpAll.dp r (by simpa [noDict] using n)
    exact ⟨.lst (SqL.of h) a, by simpa [PyData.canLay0] using b⟩
  | _, _, .tup h r z, n => by
    obtain ⟨a, b⟩ := RpAll.dp r (by simpa [noDict] using n)
    exact ⟨.tup h a, by simpa [PyData.canLay0] using b⟩
  | _, _, .scr h r z, n => by simp [noDict] at n
theorem RpAll.dp : ∀ {vs : List V} {ds : List D}, RpAll K H vs ds → noDicts ds = true → DpAll K H vs ds ∧ PyData.canLayAll0 ds = true
  | _, _, .nil, _ => ⟨.nil, by simp [PyData.canLayAll0]⟩
  | _, _, .cons h r, n => by
    simp only [noDicts, Bool.and_eq_true] at n
    obtain ⟨a, b⟩ := Rp.dp h n.1
    obtain ⟨c, d⟩ := RpAll.dp r n.2
    exact ⟨.cons a c, by simp [PyData.canLayAll0, b, d]⟩
end
end
end Tq

/-! Tq, part C: the operations, one by one. -/
namespace Tq
open PySem L2 Res

/-! ### values that may be hidden at their top -/
def Pv (K : PySem.W.Frag) (H : Hp) (Ps : List Addr) (v : V) : D → Prop
  | .list ds => ∃ p xs, v = .ref p ∧ p ∈ Ps ∧ H p = some (.lst xs) ∧ RpAll K (hide H Ps) xs ds ∧ ds.length ≤ sizeLine
  | _ => False
def RL (K : PySem.W.Frag) (H : Hp) (Ps : List Addr) (b : Bool) (v : V) (d : D) : Prop := Rp K (hide H Ps) v d ∨ (b = true ∧ Pv K H Ps v d)
section
variable {K : PySem.W.Frag} {H H' : Hp} {Ps Ps' : List Addr} {b : Bool} {v : V} {d : D}
theorem RL.of (h : Rp K (hide H Ps) v d) : RL K H Ps b v d := .inl h
theorem RL.clean (h : RL K H Ps false v d) : Rp K (hide H Ps) v d := h.elim id fun q => Bool.noConfusion q.1
theorem Pv.keep (h : Pv K H Ps v d) (k : Keep Ps H Ps' H') : Pv K H' Ps' v d := by
  cases d with
  | list ds =>
    obtain ⟨p, xs, rfl, hp, e, r, z⟩ := h
    exact ⟨p, xs, rfl, (k.priv p hp).1, (k.priv p hp).2.trans e, r.mono k.view, z⟩
  | _ => exact False.elim h
theorem RL.keep (h : RL K H Ps b v d) (k : Keep Ps H Ps' H') : RL K H' Ps' b v d := h.elim (fun q => .inl (q.mono k.view)) fun q => .inr ⟨q.1, q.2.keep k⟩
theorem RL.list {ds : List D} (h : RL K H Ps b v (.list ds)) : ∃ a xs, v = .ref a ∧ H a = some (.lst xs) ∧ RpAll K (hide H Ps) xs ds ∧ ds.length ≤ sizeLine := by
  rcases h with h | ⟨_, p, xs, rfl, hp, e, r, z⟩
  · cases h with
    | lst e r z => exact ⟨_, _, rfl, hide_le _ _ _ _ e, r, z⟩
  · exact ⟨p, xs, rfl, e, r, z⟩
theorem RL.tuple {ds : List D} (h : RL K H Ps b v (.tuple ds)) : ∃ a xs, v = .ref a ∧ SqT K H a xs ∧ RpAll K (hide H Ps) xs ds ∧ ds.length ≤ sizeLine := by
  rcases h with h | ⟨_, h⟩
  · cases h with
    | tup e r z => exact ⟨_, _, rfl, seqT (hide_le _ _) e, r, z⟩
  · exact False.elim h
theorem RL.scr {ds : List D} (h : RL K H Ps b v (scrD ds)) : ∃ a xs, v = .ref a ∧ SqL K H a xs ∧ RpAll K (hide H Ps) xs ds ∧ ds.length ≤ sizeLine := by
  rcases h with h | ⟨_, h⟩
  · cases h with
    | scr e r z => exact ⟨_, _, rfl, (hide_le _ _).seq e, r, z⟩
  · exact False.elim h
theorem RL.int {i : Int} (h : RL K H Ps b v (.int i)) : v = .int i := by
  rcases h with h | ⟨_, h⟩
  · cases h; rfl
  · exact False.elim h
theorem RL.bl {c : Bool} (h : RL K H Ps b v (.bool c)) : v = .bl c := by
  rcases h with h | ⟨_, h⟩
  · cases h; rfl
  · exact False.elim h
theorem RL.non (h : RL K H Ps b v .none) : v = .non := by
  rcases h with h | ⟨_, h⟩
  · cases h; rfl
  · exact False.elim h
theorem RL.str {x : Str} (h : RL K H Ps b v (.str x)) : v = .str x ∧ x.length ≤ sizeLine ∧ PyData.strOk x = true := by
  rcases h with h | ⟨_, h⟩
  · cases h with
    | str h1 h2 => exact ⟨rfl, h1, h2⟩
  · exact False.elim h
theorem RL.dp (h : RL K H Ps b v d) (n : noDict d = true) : Dp K H v d ∧ d.canLay0 = true := by
  rcases h with h | ⟨_, h⟩
  · exact (h.mono (hide_le _ _)).dp n
  · cases d with
    | list ds =>
      obtain ⟨p, xs, rfl, hp, e, r, z⟩ := h
      exact Rp.dp (.lst e (r.mono (hide_le _ _)) z) n
    | _ => exact False.elim h
/-- new objects -/
theorem not_hid {p : Addr} (dom : ∀ q ∈ Ps, H q ≠ none) (hp : H p = none) : p ∉ Ps := fun z => dom p z hp
theorem new_tup {p : Addr} {xs : List V} {ds : List D} (dom : ∀ q ∈ Ps, H q ≠ none) (hp : H p = none) (r : RpAll K (hide H Ps) xs ds) (z : ds.length ≤ sizeLine) : Rp K (hide (upd H p (.tup xs)) Ps) (.ref p) (.tuple ds) :=
  .tup (.inl (.inl (by rw [hide_out (not_hid dom hp), upd_same]))) (r.mono (hide_mono (same_upd hp) Ps)) z
theorem new_lst {p : Addr} {xs : List V} {ds : List D} (dom : ∀ q ∈ Ps, H q ≠ none) (hp : H p = none) (r : RpAll K (hide H Ps) xs ds) (z : ds.length ≤ sizeLine) : Rp K (hide (upd H p (.lst xs)) Ps) (.ref p) (.list ds) :=
  .lst (by rw [hide_out (not_hid dom hp), upd_same]) (r.mono (hide_mono (same_upd hp) Ps)) z
end

/-! ### truth -/
theorem tru_of {K : PySem.W.Frag} {H : Hp} {Ps : List Addr} {b : Bool} {v : V} {d : D} {t : Bool} (h : RL K H Ps b v d) (e : truth d = .ok t) : TruV K v H t := by
  cases d with
  | none => cases h.non; cases e; exact rfl
  | bool c => cases h.bl; cases e; exact rfl
  | int i => cases h.int; cases e; exact rfl
  | str x =>
    obtain ⟨rfl, h1, _⟩ := h.str
    cases e
    refine ⟨h1, ?_⟩
    by_cases q : x.length = 0
    · rw [q]; rfl
    · have q2 : ((x.length : Int) != 0) = true := by simp [q]
      rw [q2]; simp [q]
  | list ds =>
    obtain ⟨a, xs, rfl, e1, r, _⟩ := h.list
    cases e
    refine .inl ⟨xs, SqL.of e1, ?_⟩
    cases r <;> rfl
  | tuple ds =>
    obtain ⟨a, xs, rfl, e1, r, _⟩ := h.tuple
    cases e
    refine .inr (.inl ⟨xs, e1, ?_⟩)
    cases r <;> rfl
  | dict _ => cases e

/-! ### what an operation's reading must give -/
/-- one place -/
def R1ok (K : PySem.W.Frag) (f : D → Res D) (r : V → Hp → VK → Prop) : Prop :=
  ∀ (v : V) (H : Hp) (Ps : List Addr) (d x : D) (b : Bool) (Q : VK), (∀ q ∈ Ps, H q ≠ none) → RL K H Ps b v d → f d = .ok x → (∀ u H', Same H H' → Rp K (hide H' Ps) u x → Q u H') → r v H Q
/-- two places -/
def R2ok (K : PySem.W.Frag) (f : D → D → Res D) (r : R2) : Prop :=
  ∀ (v w : V) (H : Hp) (Ps : List Addr) (d e x : D) (b c : Bool) (Q : VK), (∀ q ∈ Ps, H q ≠ none) → RL K H Ps b v d → RL K H Ps c w e → f d e = .ok x → (∀ u H', Same H H' → Rp K (hide H' Ps) u x → Q u H') → r v w H Q
end Tq

/-! Tq, part D: the operations' readings. -/
namespace Tq
open PySem L2 Res

section
variable {X : Cx}
theorem op_isB : OpR X (compareOp .Is) (fun x y H Q => ∃ c, y = .bl c ∧ Q (.bl (decide (x = .bl c))) H) := by
  intro pins s σ H x y v u Q I rx ry h
  obtain ⟨c, rfl, q⟩ := h
  cases ry
  cases x with
  | non => cases rx; exact wpAny_pure ⟨.bl _, H, I, rfl, q⟩
  | bl b =>
    cases rx
    refine wpAny_pure ⟨.bl _, H, I, ?_, q⟩
    cases b <;> cases c <;> rfl
  | int _ => obtain ⟨t, rfl⟩ := rx; exact wpAny_pure ⟨.bl _, H, I, rfl, q⟩
  | str _ => obtain ⟨t, rfl⟩ := rx; exact wpAny_pure ⟨.bl _, H, I, rfl, q⟩
  | byt _ => obtain ⟨t, rfl⟩ := rx; exact wpAny_pure ⟨.bl _, H, I, rfl, q⟩
  | flt _ => obtain ⟨t, rfl⟩ := rx; exact wpAny_pure ⟨.bl _, H, I, rfl, q⟩
  | ref _ => cases rx; exact wpAny_pure ⟨.bl _, H, I, rfl, q⟩
  | ty _ => cases rx; exact wpAny_pure ⟨.bl _, H, I, rfl, q⟩
theorem op_notB : OpR X (compareOp .IsNot) (fun x y H Q => ∃ c, y = .bl c ∧ Q (.bl (!decide (x = .bl c))) H) := by
  intro pins s σ H x y v u Q I rx ry h
  obtain ⟨c, rfl, q⟩ := h
  cases ry
  cases x with
  | non => cases rx; exact wpAny_pure ⟨.bl _, H, I, rfl, q⟩
  | bl b =>
    cases rx
    refine wpAny_pure ⟨.bl _, H, I, ?_, q⟩
    cases b <;> cases c <;> rfl
  | int _ => obtain ⟨t, rfl⟩ := rx; exact wpAny_pure ⟨.bl _, H, I, rfl, q⟩
  | str _ => obtain ⟨t, rfl⟩ := rx; exact wpAny_pure ⟨.bl _, H, I, rfl, q⟩
  | byt _ => obtain ⟨t, rfl⟩ := rx; exact wpAny_pure ⟨.bl _, H, I, rfl, q⟩
  | flt _ => obtain ⟨t, rfl⟩ := rx; exact wpAny_pure ⟨.bl _, H, I, rfl, q⟩
  | ref _ => cases rx; exact wpAny_pure ⟨.bl _, H, I, rfl, q⟩
  | ty _ => cases rx; exact wpAny_pure ⟨.bl _, H, I, rfl, q⟩
/-- == and != where one side is shallow -/
def rEqM (K : PySem.W.Frag) : R2 := fun x y H Q => ∃ d e, Dp K H x d ∧ Dp K H y e ∧ d.canLay0 = true ∧ e.canLay0 = true ∧ min d.depth e.depth ≤ 60 ∧ Q (.bl (PyData.eqv d e)) H
def rNeM (K : PySem.W.Frag) : R2 := fun x y H Q => ∃ d e, Dp K H x d ∧ Dp K H y e ∧ d.canLay0 = true ∧ e.canLay0 = true ∧ min d.depth e.depth ≤ 60 ∧ Q (.bl (!PyData.eqv d e)) H
theorem op_eqM (hu : X.A.units + 64 < cLine) : OpR X (compareOp .Eq) (rEqM X.K) := by
  intro pins s σ H x y v u Q I rx ry h
  obtain ⟨d, e, hd, he, sd, se, hm, q⟩ := h
  obtain ⟨as, r1⟩ := Dp.reads I d x v hd rx
  obtain ⟨bs, r2⟩ := Dp.reads I e y u he ry
  exact SeqAt.compareEq_reads r1 r2 sd se (by omega) ⟨.bl _, H, I, rfl, q⟩
theorem op_neM (hu : X.A.units + 64 < cLine) : OpR X (compareOp .NotEq) (rNeM X.K) := by
  intro pins s σ H x y v u Q I rx ry h
  obtain ⟨d, e, hd, he, sd, se, hm, q⟩ := h
  obtain ⟨as, r1⟩ := Dp.reads I d x v hd rx
  obtain ⟨bs, r2⟩ := Dp.reads I e y u he ry
  exact SeqAt.compareNe_reads r1 r2 sd se (by omega) ⟨.bl _, H, I, rfl, q⟩
/-- in, not in of lists and tuples -/
def rInM (K : PySem.W.Frag) (neg : Bool) : R2 := fun x y H Q => ∃ d ds, Dp K H x d ∧ (Dp K H y (.list ds) ∨ Dp K H y (.tuple ds)) ∧ d.canLay0 = true ∧ PyData.canLayAll0 ds = true ∧ min (PyData.depthAll ds) d.depth ≤ 60 ∧
  Q (.bl (if neg then !ds.any fun z => PyData.eqv z d else ds.any fun z => PyData.eqv z d)) H
theorem op_inM (hu : X.A.units + 64 < cLine) : OpR X (compareOp .In) (rInM X.K false) := by
  intro pins s σ H x y v u Q I rx ry h
  obtain ⟨d, ds, hd, he, sd, se, hm, q⟩ := h
  obtain ⟨as, r1⟩ := Dp.reads I d x v hd rx
  rcases he with he | he
  · obtain ⟨bs, r2⟩ := Dp.reads I (.list ds) y u he ry
    exact SeqAt.in_list_reads r2 r1 se sd (by omega) ⟨.bl _, H, I, rfl, q⟩
  · obtain ⟨bs, r2⟩ := Dp.reads I (.tuple ds) y u he ry
    exact SeqAt.in_tuple_reads r2 r1 se sd (by omega) ⟨.bl _, H, I, rfl, q⟩
theorem op_notInM (hu : X.A.units + 64 < cLine) : OpR X (compareOp .NotIn) (rInM X.K true) := by
  intro pins s σ H x y v u Q I rx ry h
  obtain ⟨d, ds, hd, he, sd, se, hm, q⟩ := h
  obtain ⟨as, r1⟩ := Dp.reads I d x v hd rx
  rcases he with he | he
  · obtain ⟨bs, r2⟩ := Dp.reads I (.list ds) y u he ry
    exact SeqAt.notIn_list_reads r2 r1 se sd (by omega) ⟨.bl _, H, I, rfl, q⟩
  · obtain ⟨bs, r2⟩ := Dp.reads I (.tuple ds) y u he ry
    exact SeqAt.notIn_tuple_reads r2 r1 se sd (by omega) ⟨.bl _, H, I, rfl, q⟩
end

/-! ### the plain operations over represented values -/
section
variable {K : PySem.W.Frag}
theorem Rp.sing {H : Hp} {x : Str} {c : Nat} (h : PyData.strOk x = true) (hc : c ∈ x.cps.toList) : Rp K H (.str ⟨#[c]⟩) (.str ⟨#[c]⟩) := by
  refine .str (by show 1 ≤ sizeLine; decide) ?_
  unfold PyData.strOk at h ⊢
  have := Array.all_eq_true_iff_forall_mem.mp h c (Array.mem_def.mpr hc)
  simpa using this
def rAddAll (K : PySem.W.Frag) : R2 := fun x y H Q => (rI0 fun i j => .int (i + j)) x y H Q ∨ (∃ i j, x = .str i ∧ y = .str j ∧ i.length + j.length ≤ sizeLine ∧ Q (.str (i ++ j)) H) ∨ rCat x y H Q ∨ rCatA K x y H Q
theorem strOk_append {x y : Str} (hx : PyData.strOk x = true) (hy : PyData.strOk y = true) : PyData.strOk (x ++ y) = true := by
  unfold PyData.strOk at hx hy ⊢
  show (x.cps ++ y.cps).all _ = true
  rw [Array.all_append, hx, hy]; rfl
theorem length_append_str (x y : Str) : (x ++ y).length = x.length + y.length := by
  show (x.cps ++ y.cps).size = _
  rw [Array.size_append]; rfl
theorem r_add : R2ok K addD (rAddAll K) := by
  intro v w H Ps d e x b c Q dom h1 h2 hx q
  cases d <;> cases e <;> first | (cases hx; done) | skip
  · -- ints
    cases h1.int; cases h2.int; cases hx
    exact .inl ⟨_, _, rfl, rfl, q _ _ (Same.refl _) (.int _)⟩
  · obtain ⟨rfl, a1, a2⟩ := h1.str
    obtain ⟨rfl, b1, b2⟩ := h2.str
    rename_i s t
    simp only [addD] at hx
    by_cases z : fits (s.length + t.length) = true
    · rw [if_pos z] at hx; cases hx
      have z' : s.length + t.length ≤ sizeLine := of_decide_eq_true z
      exact .inr (.inl ⟨_, _, rfl, rfl, z', q _ _ (Same.refl _) (.str (by rw [length_append_str]; exact z') (strOk_append a2 b2))⟩)
    · rw [if_neg z] at hx; cases hx
  · rename_i s t
    obtain ⟨a, xs, rfl, a1, a2, a3⟩ := h1.list
    obtain ⟨a', ys, rfl, b1, b2, b3⟩ := h2.list
    simp only [addD] at hx
    by_cases z : fits (s.length + t.length) = true
    · rw [if_pos z] at hx; cases hx
      have z' : s.length + t.length ≤ sizeLine := of_decide_eq_true z
      refine .inr (.inr (.inl ⟨a, a', xs, ys, rfl, rfl, a1, b1, by rw [a2.length, b2.length]; exact z', fun p hp => ?_⟩))
      exact q _ _ (same_upd hp) (new_lst dom hp (a2.append b2) (by rw [List.length_append]; exact z'))
    · rw [if_neg z] at hx; cases hx
  · rename_i s t
    obtain ⟨a, xs, rfl, a1, a2, a3⟩ := h1.tuple
    obtain ⟨a', ys, rfl, b1, b2, b3⟩ := h2.tuple
    simp only [addD] at hx
    by_cases z : fits (s.length + t.length) = true
    · rw [if_pos z] at hx; cases hx
      have z' : s.length + t.length ≤ sizeLine := of_decide_eq_true z
      refine .inr (.inr (.inr ⟨a, a', xs, ys, rfl, rfl, a1, b1, by rw [a2.length, b2.length]; exact z', fun hxs => ?_, fun hxs hys => ?_, fun hxs hys p hp => ?_⟩))
      · subst hxs
        have : s = [] := by have := a2.length; cases s with | nil => rfl | cons _ _ => simp at this
        subst this
        refine q _ _ (Same.refl _) ?_
        rcases h2 with h2 | ⟨_, h2⟩
        · exact h2
        · exact False.elim h2
      · subst hys
        have : t = [] := by have := b2.length; cases t with | nil => rfl | cons _ _ => simp at this
        subst this
        refine q _ _ (Same.refl _) ?_
        rw [List.append_nil]
        rcases h1 with h1 | ⟨_, h1⟩
        · exact h1
        · exact False.elim h1
      · exact q _ _ (same_upd hp) (new_tup dom hp (a2.append b2) (by rw [List.length_append]; exact z'))
    · rw [if_neg z] at hx; cases hx
theorem r_int2 {C : Int → Int → Prop} {g : Int → Int → V} {f : Int → Int → Res D} (hf : ∀ i j x, f i j = .ok x → C i j ∧ ∀ H, Rp K H (g i j) x) : R2ok K (int2D f) (rI C g) := by
  intro v w H Ps d e x b c Q dom h1 h2 hx q
  cases d with
  | int i =>
    cases e with
    | int j =>
      cases h1.int; cases h2.int
      obtain ⟨c1, c2⟩ := hf i j x hx
      exact ⟨i, j, rfl, rfl, c1, q _ _ (Same.refl _) (c2 _)⟩
    | _ => cases hx
  | _ => cases hx
theorem r_int20 {g : Int → Int → V} {f : Int → Int → Res D} (hf : ∀ i j x, f i j = .ok x → ∀ H, Rp K H (g i j) x) : R2ok K (int2D f) (rI0 g) := by
  intro v w H Ps d e x b c Q dom h1 h2 hx q
  cases d with
  | int i =>
    cases e with
    | int j =>
      cases h1.int; cases h2.int
      exact ⟨i, j, rfl, rfl, q _ _ (Same.refl _) (hf i j x hx _)⟩
    | _ => cases hx
  | _ => cases hx
theorem r_sub : R2ok K subD (rI0 fun i j => .int (i - j)) := r_int20 fun i j x h H => by cases h; exact .int _
theorem r_mul : R2ok K mulD (rI CMul fun i j => .int (i * j)) := r_int2 fun i j x h => by
  split at h
  · rename_i z; cases h; have z' := of_decide_eq_true z; exact ⟨z', fun H => .int _⟩
  · cases h
theorem r_mod : R2ok K modD (rI (fun _ j => 0 < j) fun i j => .int (i % j)) := r_int2 fun i j x h => by
  split at h
  · rename_i z; cases h; have z' := of_decide_eq_true z; exact ⟨z', fun H => .int _⟩
  · cases h
theorem r_pow : R2ok K powD (rI CPow fun i j => .int (i ^ j.toNat)) := r_int2 fun i j x h => by
  split at h
  · rename_i z; cases h; have z' := of_decide_eq_true z; exact ⟨z', fun H => .int _⟩
  · cases h
theorem r_gt : R2ok K gtD (rI0 fun i j => .bl (decide (j < i))) := r_int20 fun i j x h H => by cases h; exact .bl _
theorem r_ge : R2ok K geD (rI0 fun i j => .bl (decide (j ≤ i))) := r_int20 fun i j x h H => by cases h; exact .bl _
theorem r_eq : R2ok K eqD (rEqM K) := by
  intro v w H Ps d e x b c Q dom h1 h2 hx q
  unfold eqD at hx
  split at hx
  · rename_i z
    cases hx
    simp only [eqOk, Bool.and_eq_true, decide_eq_true_eq] at z
    obtain ⟨a1, a2⟩ := h1.dp z.1.1
    obtain ⟨b1, b2⟩ := h2.dp z.1.2
    exact ⟨d, e, a1, b1, a2, b2, z.2, q _ _ (Same.refl _) (.bl _)⟩
  · cases hx
theorem r_ne : R2ok K neD (rNeM K) := by
  intro v w H Ps d e x b c Q dom h1 h2 hx q
  unfold neD at hx
  split at hx
  · rename_i z
    cases hx
    simp only [eqOk, Bool.and_eq_true, decide_eq_true_eq] at z
    obtain ⟨a1, a2⟩ := h1.dp z.1.1
    obtain ⟨b1, b2⟩ := h2.dp z.1.2
    exact ⟨d, e, a1, b1, a2, b2, z.2, q _ _ (Same.refl _) (.bl _)⟩
  · cases hx
def rLtAll : R2 := fun x y H Q => (rI0 fun i j => .bl (decide (i < j))) x y H Q ∨ (∃ i j, x = .str i ∧ y = .str j ∧ Q (.bl (decide (i.cps.toList < j.cps.toList))) H)
def rLeAll : R2 := fun x y H Q => (rI0 fun i j => .bl (decide (i ≤ j))) x y H Q ∨ (∃ i j, x = .str i ∧ y = .str j ∧ Q (.bl (!decide (j.cps.toList < i.cps.toList))) H)
theorem r_lt : R2ok K ltD rLtAll := by
  intro v w H Ps d e x b c Q dom h1 h2 hx q
  cases d <;> cases e <;> first | (cases hx; done) | skip
  · cases h1.int; cases h2.int; cases hx
    exact .inl ⟨_, _, rfl, rfl, q _ _ (Same.refl _) (.bl _)⟩
  · obtain ⟨rfl, _, _⟩ := h1.str; obtain ⟨rfl, _, _⟩ := h2.str; cases hx
    exact .inr ⟨_, _, rfl, rfl, q _ _ (Same.refl _) (.bl _)⟩
theorem r_le : R2ok K leD rLeAll := by
  intro v w H Ps d e x b c Q dom h1 h2 hx q
  cases d <;> cases e <;> first | (cases hx; done) | skip
  · cases h1.int; cases h2.int; cases hx
    exact .inl ⟨_, _, rfl, rfl, q _ _ (Same.refl _) (.bl _)⟩
  · obtain ⟨rfl, _, _⟩ := h1.str; obtain ⟨rfl, _, _⟩ := h2.str; cases hx
    exact .inr ⟨_, _, rfl, rfl, q _ _ (Same.refl _) (.bl _)⟩
/-- which of V's forms a value has -/
theorem RL.form {H : Hp} {Ps : List Addr} {b : Bool} {v : V} {d : D} (h : RL K H Ps b v d) : decide (v = .non) = isNone d ∧ ∀ c, decide (v = .bl c) = isBool c d := by
  cases d with
  | none => cases h.non; exact ⟨rfl, fun c => rfl⟩
  | bool c' => cases h.bl; exact ⟨rfl, fun c => by cases c <;> cases c' <;> rfl⟩
  | int i => cases h.int; exact ⟨rfl, fun c => rfl⟩
  | str x => obtain ⟨rfl, _⟩ := h.str; exact ⟨rfl, fun c => rfl⟩
  | list ds => obtain ⟨a, xs, rfl, _⟩ := h.list; exact ⟨rfl, fun c => rfl⟩
  | tuple ds => obtain ⟨a, xs, rfl, _⟩ := h.tuple; exact ⟨rfl, fun c => rfl⟩
  | dict kvs =>
    rcases h with h | ⟨_, h⟩
    · cases h; exact ⟨rfl, fun c => rfl⟩
    · exact False.elim h
def rIsAll : R2 := fun x y H Q => (y = .non ∧ Q (.bl (decide (x = .non))) H) ∨ (∃ c, y = .bl c ∧ Q (.bl (decide (x = .bl c))) H)
def rIsNotAll : R2 := fun x y H Q => (y = .non ∧ Q (.bl (!decide (x = .non))) H) ∨ (∃ c, y = .bl c ∧ Q (.bl (!decide (x = .bl c))) H)
theorem r_is : R2ok K isD rIsAll := by
  intro v w H Ps d e x b c Q dom h1 h2 hx q
  obtain ⟨f1, f2⟩ := h1.form
  cases e with
  | none =>
    cases h2.non
    cases hx
    refine .inl ⟨rfl, ?_⟩
    rw [f1]
    exact q _ _ (Same.refl _) (.bl _)
  | bool e =>
    cases h2.bl
    cases hx
    refine .inr ⟨e, rfl, ?_⟩
    rw [f2]
    exact q _ _ (Same.refl _) (.bl _)
  | _ => cases hx
theorem r_isnot : R2ok K isnotD rIsNotAll := by
  intro v w H Ps d e x b c Q dom h1 h2 hx q
  obtain ⟨f1, f2⟩ := h1.form
  cases e with
  | none =>
    cases h2.non
    cases hx
    refine .inl ⟨rfl, ?_⟩
    rw [f1]
    exact q _ _ (Same.refl _) (.bl _)
  | bool e =>
    cases h2.bl
    cases hx
    refine .inr ⟨e, rfl, ?_⟩
    rw [f2]
    exact q _ _ (Same.refl _) (.bl _)
  | _ => cases hx
end
end Tq

/-! Tq, part E: further readings. -/
namespace Tq
open PySem L2 Res
section
variable {K : PySem.W.Frag}
/-- in -/
def rInAll (K : PySem.W.Frag) (neg : Bool) : R2 := fun x y H Q => (∃ (c : Nat) (z : Str), x = .str ⟨#[c]⟩ ∧ y = .str z ∧ Q (.bl (if neg then !decide (c ∈ z.cps.toList) else decide (c ∈ z.cps.toList))) H) ∨ rInM K neg x y H Q
theorem one_sign {x : Str} (h : x.length = 1) : x = ⟨#[x.cps.getD 0 0]⟩ := by
  obtain ⟨cps⟩ := x
  have h' : cps.size = 1 := h
  cases cps with
  | mk l =>
    cases l with
    | nil => simp at h'
    | cons a r =>
      cases r with
      | nil => rfl
      | cons _ _ => simp at h'
theorem r_inB {neg : Bool} : ∀ (v w : V) (H : Hp) (Ps : List Addr) (d e : D) (x : Bool) (b c : Bool) (Q : VK), RL K H Ps b v d → RL K H Ps c w e → inB d e = .ok x → Q (.bl (if neg then !x else x)) H → rInAll K neg v w H Q := by
  intro v w H Ps d e x b c Q h1 h2 hx q
  have seq : ∀ ds, inSeq d ds = .ok x → (Dp K H w (.list ds) ∨ Dp K H w (.tuple ds)) → PyData.canLayAll0 ds = true → rInAll K neg v w H Q := fun ds hs hd hc => by
    unfold inSeq at hs
    split at hs
    · rename_i z
      cases hs
      simp only [inOk, Bool.and_eq_true, decide_eq_true_eq] at z
      obtain ⟨a1, a2⟩ := h1.dp z.1.1
      exact .inr ⟨d, ds, a1, hd, a2, hc, z.2, q⟩
    · cases hs
  have nd : ∀ ds, inSeq d ds = .ok x → noDicts ds = true := fun ds hs => by
    unfold inSeq at hs
    split at hs
    · rename_i z
      simp only [inOk, Bool.and_eq_true, decide_eq_true_eq] at z
      exact z.1.2
    · cases hs
  cases e with
  | str y =>
    obtain ⟨rfl, _, _⟩ := h2.str
    cases d with
    | str z =>
      obtain ⟨rfl, _, _⟩ := h1.str
      have hx' : (if decide (z.length = 1) = true then Res.ok (decide (z.cps.getD 0 0 ∈ y.cps.toList)) else .bad) = .ok x := hx
      split at hx'
      · rename_i hz
        cases hx'
        exact .inl ⟨z.cps.getD 0 0, y, congrArg V.str (one_sign (of_decide_eq_true hz)), rfl, q⟩
      · cases hx'
    | _ => cases hx
  | tuple ds =>
    obtain ⟨a1, a2⟩ := h2.dp (by simpa [noDict] using nd ds hx)
    exact seq ds hx (.inr a1) (by simpa [PyData.canLay0] using a2)
  | list ds =>
    obtain ⟨a1, a2⟩ := h2.dp (by simpa [noDict] using nd ds hx)
    exact seq ds hx (.inl a1) (by simpa [PyData.canLay0] using a2)
  | _ => cases hx
theorem r_in : R2ok K inD (rInAll K false) := by
  intro v w H Ps d e x b c Q dom h1 h2 hx q
  cases hb : inB d e with
  | ok t =>
    unfold inD at hx; rw [hb] at hx; cases hx
    exact r_inB v w H Ps d e t b c Q h1 h2 hb (q _ _ (Same.refl _) (.bl _))
  | exc _ _ => unfold inD at hx; rw [hb] at hx; cases hx
  | bad => unfold inD at hx; rw [hb] at hx; cases hx
theorem r_notin : R2ok K notinD (rInAll K true) := by
  intro v w H Ps d e x b c Q dom h1 h2 hx q
  cases hb : inB d e with
  | ok t =>
    unfold notinD at hx; rw [hb] at hx; cases hx
    exact r_inB v w H Ps d e t b c Q h1 h2 hb (q _ _ (Same.refl _) (.bl _))
  | exc _ _ => unfold notinD at hx; rw [hb] at hx; cases hx
  | bad => unfold notinD at hx; rw [hb] at hx; cases hx
/-- items -/
theorem atI_mem {α : Type} {xs : List α} {i : Int} {v : α} (h : L2.atI xs i = some v) : v ∈ xs := by
  obtain ⟨j, _, e, _⟩ := atI_get h
  exact List.mem_of_getElem? e
theorem r_idx : R2ok K idxD (rIx K) := by
  intro v w H Ps d e x b c Q dom h1 h2 hx q
  cases d with
  | list xs =>
    cases e with
    | int i =>
      cases h2.int
      obtain ⟨a, vs, rfl, e1, r, _⟩ := h1.list
      have hx' : (match L2.atI xs i with | some d => Res.ok d | none => .bad) = .ok x := hx
      cases ha : L2.atI xs i with
      | none => rw [ha] at hx'; cases hx'
      | some y =>
        rw [ha] at hx'; cases hx'
        obtain ⟨u, hu, ru⟩ := r.atI ha
        exact .inl ⟨a, vs, i, u, rfl, rfl, SqL.of e1, hu, q _ _ (Same.refl _) ru⟩
    | _ => cases hx
  | tuple xs =>
    cases e with
    | int i =>
      cases h2.int
      obtain ⟨a, vs, rfl, e1, r, _⟩ := h1.tuple
      have hx' : (match L2.atI xs i with | some d => Res.ok d | none => .bad) = .ok x := hx
      cases ha : L2.atI xs i with
      | none => rw [ha] at hx'; cases hx'
      | some y =>
        rw [ha] at hx'; cases hx'
        obtain ⟨u, hu, ru⟩ := r.atI ha
        exact .inr (.inl ⟨a, vs, i, u, rfl, rfl, e1, hu, q _ _ (Same.refl _) ru⟩)
    | _ => cases hx
  | str y =>
    cases e with
    | int i =>
      cases h2.int
      obtain ⟨rfl, z1, z2⟩ := h1.str
      have hx' : (match L2.atI y.cps.toList i with | some c => Res.ok (PyData.str ⟨#[c]⟩) | none => .bad) = .ok x := hx
      cases ha : L2.atI y.cps.toList i with
      | none => rw [ha] at hx'; cases hx'
      | some c =>
        rw [ha] at hx'; cases hx'
        exact .inr (.inr ⟨y, i, c, rfl, rfl, z1, ha, q _ _ (Same.refl _) (Rp.sing z2 (atI_mem ha))⟩)
    | _ => cases hx
  | dict kvs =>
    rcases h1 with h1 | ⟨_, h1⟩
    · cases h1 with
      | scr hs r z =>
        rename_i a vs xs
        cases e with
        | int i =>
          cases h2.int
          have hx' : (match L2.atI xs i with | some d => Res.ok d | none => .bad) = .ok x := hx
          cases ha : L2.atI xs i with
          | none => rw [ha] at hx'; cases hx'
          | some y =>
            rw [ha] at hx'; cases hx'
            obtain ⟨u, hu, ru⟩ := r.atI ha
            exact .inl ⟨_, _, i, u, rfl, rfl, (hide_le _ _).seq hs, hu, q _ _ (Same.refl _) ru⟩
        | _ => cases hx
    · exact False.elim h1
  | _ => cases hx
/-- len -/
theorem r_len : R1ok K lenD (fun v H Q => ∃ x n, [v] = [x] ∧ LenV K x H n ∧ Q (.int n) H) := by
  intro v H Ps d x b Q dom h1 hx q
  cases d with
  | str s =>
    obtain ⟨rfl, z1, z2⟩ := h1.str
    cases hx
    exact ⟨_, _, rfl, ⟨z1, rfl⟩, q _ _ (Same.refl _) (.int _)⟩
  | list xs =>
    obtain ⟨a, vs, rfl, e1, r, _⟩ := h1.list
    cases hx
    exact ⟨_, _, rfl, .inl ⟨vs, SqL.of e1, rfl⟩, by rw [r.length]; exact q _ _ (Same.refl _) (.int _)⟩
  | tuple xs =>
    obtain ⟨a, vs, rfl, e1, r, _⟩ := h1.tuple
    cases hx
    exact ⟨_, _, rfl, .inr ⟨vs, e1, rfl⟩, by rw [r.length]; exact q _ _ (Same.refl _) (.int _)⟩
  | dict kvs =>
    rcases h1 with h1 | ⟨_, h1⟩
    · cases h1 with
      | scr hs r z =>
        cases hx
        exact ⟨_, _, rfl, .inl ⟨_, (hide_le _ _).seq hs, rfl⟩, by rw [r.length]; exact q _ _ (Same.refl _) (.int _)⟩
    · exact False.elim h1
  | _ => cases hx
theorem r_tuple : R1ok K tupleD (fun v H Q => ∃ p ys, [v] = [.ref p] ∧ ((SqL K H p ys ∧ ∀ l, H l = none → Q (.ref l) (upd H l (.tup ys))) ∨ (SqT K H p ys ∧ Q (.ref p) H))) := by
  intro v H Ps d x b Q dom h1 hx q
  cases d with
  | list xs =>
    obtain ⟨a, vs, rfl, e1, r, z⟩ := h1.list
    cases hx
    exact ⟨a, vs, rfl, .inl ⟨SqL.of e1, fun l hl => q _ _ (same_upd hl) (new_tup dom hl r z)⟩⟩
  | tuple xs =>
    obtain ⟨a, vs, rfl, e1, r, z⟩ := h1.tuple
    cases hx
    refine ⟨a, vs, rfl, .inr ⟨e1, q _ _ (Same.refl _) ?_⟩⟩
    rcases h1 with h | ⟨_, h⟩
    · exact h
    · exact False.elim h
  | _ => cases hx
theorem r_list : R1ok K listD (fun v H Q => ∃ p ys, [v] = [.ref p] ∧ (SqL K H p ys ∨ SqT K H p ys) ∧ ∀ l, H l = none → Q (.ref l) (upd H l (.lst ys))) := by
  intro v H Ps d x b Q dom h1 hx q
  cases d with
  | list xs =>
    obtain ⟨a, vs, rfl, e1, r, z⟩ := h1.list
    cases hx
    exact ⟨a, vs, rfl, .inl (SqL.of e1), fun l hl => q _ _ (same_upd hl) (new_lst dom hl r z)⟩
  | tuple xs =>
    obtain ⟨a, vs, rfl, e1, r, z⟩ := h1.tuple
    cases hx
    exact ⟨a, vs, rfl, .inr e1, fun l hl => q _ _ (same_upd hl) (new_lst dom hl r z)⟩
  | _ => cases hx
theorem bools_of : ∀ {H : Hp} {vs : List V} {ds : List D} {bs : List Bool}, RpAll K H vs ds → boolsD ds = some bs → vs = bs.map V.bl
  | _, _, _, _, .nil, e => by cases e; rfl
  | H, _, _, bs, .cons (d := d) (ds := ds) h r, e => by
    cases d with
    | bool b =>
      have e' : (boolsD ds).map (b :: ·) = some bs := e
      cases q : boolsD ds with
      | none => rw [q] at e'; cases e'
      | some cs =>
        rw [q] at e'; cases e'
        cases h
        rw [bools_of r q]; rfl
    | _ => cases e
theorem r_any : R1ok K anyD (fun v H Q => rAny K [v] H Q) := by
  intro v H Ps d x b Q dom h1 hx q
  cases d with
  | list xs =>
    obtain ⟨a, vs, rfl, e1, r, z⟩ := h1.list
    have hx' : (match boolsD xs with | some bs => Res.ok (PyData.bool (bs.any id)) | none => .bad) = .ok x := hx
    cases hb : boolsD xs with
    | none => rw [hb] at hx'; cases hx'
    | some bs =>
      rw [hb] at hx'; cases hx'
      exact ⟨a, bs, rfl, SqL.of (by rw [← bools_of r hb]; exact e1), q _ _ (Same.refl _) (.bl _)⟩
  | _ => cases hx
theorem r_all : R1ok K allD (fun v H Q => rAll K [v] H Q) := by
  intro v H Ps d x b Q dom h1 hx q
  cases d with
  | list xs =>
    obtain ⟨a, vs, rfl, e1, r, z⟩ := h1.list
    have hx' : (match boolsD xs with | some bs => Res.ok (PyData.bool (bs.all id)) | none => .bad) = .ok x := hx
    cases hb : boolsD xs with
    | none => rw [hb] at hx'; cases hx'
    | some bs =>
      rw [hb] at hx'; cases hx'
      exact ⟨a, bs, rfl, SqL.of (by rw [← bools_of r hb]; exact e1), q _ _ (Same.refl _) (.bl _)⟩
  | _ => cases hx
theorem r_neg : R1ok K negD (rU fun i => .int (-i)) := by
  intro v H Ps d x b Q dom h1 hx q
  cases d with
  | int i => cases h1.int; cases hx; exact ⟨i, rfl, q _ _ (Same.refl _) (.int _)⟩
  | _ => cases hx
theorem r_int : R1ok K intD (fun v H Q => (∃ i, [v] = [.int i] ∧ Q (.int i) H) ∨ ∃ k, [v] = [.bl k] ∧ Q (.int (if k then 1 else 0)) H) := by
  intro v H Ps d x b Q dom h1 hx q
  cases d with
  | int i => cases h1.int; cases hx; exact .inl ⟨i, rfl, q _ _ (Same.refl _) (.int _)⟩
  | bool k => cases h1.bl; cases hx; exact .inr ⟨k, rfl, q _ _ (Same.refl _) (.int _)⟩
  | _ => cases hx
theorem r_not : R1ok K notD (fun v H Q => ∃ k, TruV K v H k ∧ Q (.bl (!k)) H) := by
  intro v H Ps d x b Q dom h1 hx q
  cases ht : truth d with
  | ok t => unfold notD at hx; rw [ht] at hx; cases hx; exact ⟨t, tru_of h1 ht, q _ _ (Same.refl _) (.bl _)⟩
  | exc _ _ => unfold notD at hx; rw [ht] at hx; cases hx
  | bad => unfold notD at hx; rw [ht] at hx; cases hx
/-- join -/
theorem strs_of : ∀ {H : Hp} {vs : List V} {ds : List D} {xs : List Str}, RpAll K H vs ds → strsD ds = some xs → vs = xs.map V.str ∧ ∀ x ∈ xs, PyData.strOk x = true
  | _, _, _, _, .nil, e => by cases e; exact ⟨rfl, fun _ h => nomatch h⟩
  | H, _, _, xs, .cons (d := d) (ds := ds) h r, e => by
    cases d with
    | str b =>
      have e' : (strsD ds).map (b :: ·) = some xs := e
      cases q : strsD ds with
      | none => rw [q] at e'; cases e'
      | some cs =>
        rw [q] at e'; cases e'
        cases h with
        | str h1 h2 =>
          obtain ⟨h3, h4⟩ := strs_of r q
          exact ⟨by rw [h3]; rfl, fun x hx => (List.mem_cons.mp hx).elim (fun z => z ▸ h2) (h4 x)⟩
    | _ => cases e
end
end Tq

/-! Tq, part F: the text held against the small language; the context. -/
namespace Tq
open PySem L2 Res

/-! ### the text -/
structure Sx where
  N : List Str
  sc : Scope
  M : List Nat
  fnm : Nat → Option (Str × Nat)
  gl : List (Str × D)
  fnc : Str → Bool
def noStar : Expr → Bool
  | .Starred .. => false
  | _ => true
def noSlice : Expr → Bool
  | .Slice .. => false
  | _ => true
def noCall0 : Expr → Bool
  | .Call (.Name _ _) [] [] _ => false
  | _ => true
def noSet : Expr → Bool
  | .Set .. => false
  | _ => true
def plainTest : Expr → Bool
  | .UnaryOp .Not _ _ => false
  | .BoolOp .. => false
  | .IfExp .. => false
  | .Compare .. => false
  | _ => true
def noComp : Expr → Bool
  | .ListComp .. => false
  | .SetComp .. => false
  | .DictComp .. => false
  | _ => true
def visK : Option NameKind → Bool
  | some .local => true
  | some .cell => true
  | some .free => true
  | _ => false
def glK : Option NameKind → Bool
  | some .globalImplicit => true
  | _ => false
def locK (c : Bool) : Option NameKind → Bool
  | some .local => true
  | some .cell => c
  | _ => false
def visB (S : Sx) (i : Nat) (x : Str) : Bool := decide (S.N[i]? = some x) && visK (S.sc.names.lookup x) && !(x == ("__debug__" : Str)) && !(x == ("__classdict__" : Str))
def locB (S : Sx) (i : Nat) (x : Str) : Bool := decide (S.N[i]? = some x) && locK (S.fnc x) (S.sc.names.lookup x)
def glB (S : Sx) (x : Str) : Bool := glK (S.sc.names.lookup x)
def freeNames : List Str := (["len", "tuple", "list", "any", "all", "int", "isinstance", "range", "bool", "str", "enumerate", "zip", "reversed", "set", "sorted", "dict", "sum", "min", "max"] : List String).map Str.ofString

def bcall (S : Sx) (x : Str) : Expr → Option Expr
  | .Call (.Name n _) [a] [] _ => if n = x ∧ glB S x = true ∧ noStar a = true then some a else none
  | _ => none
def cmpOf : Op2 → Option CmpOp
  | .eq => some .Eq
  | .ne => some .NotEq
  | .lt => some .Lt
  | .le => some .LtE
  | .gt => some .Gt
  | .ge => some .GtE
  | .is => some .Is
  | .isnot => some .IsNot
  | .in_ => some .In
  | .notin => some .NotIn
  | _ => none
def binOf : Op2 → Option Operator
  | .add => some .Add
  | .sub => some .Sub
  | .mul => some .Mult
  | .mod => some .Mod
  | .pow => some .Pow
  | _ => none
def unOf : Op1 → Option UnaryOp
  | .neg => some .USub
  | _ => none
def biOf : Op1 → Option Str
  | .len => some "len"
  | .any => some "any"
  | .all => some "all"
  | _ => none
def tyOf : Op1 → Option Str
  | .tuple => some "tuple"
  | .list => some "list"
  | .int => some "int"
  | _ => none
def unE (u : UnaryOp) : Expr → Option Expr
  | .UnaryOp v a _ => if (v == u) = true then some a else none
  | _ => none
/-- e is this operation over x -/
def sh1 (S : Sx) (op : Op1) (e : Expr) : Option Expr := match op with
  | .neg => unE .USub e
  | .not => unE .Not e
  | .len => bcall S "len" e
  | .any => bcall S "any" e
  | .all => bcall S "all" e
  | .tuple => bcall S "tuple" e
  | .list => bcall S "list" e
  | .int => bcall S "int" e
  | _ => none
def cmpE (op : Op2) : Expr → Option (Expr × Expr)
  | .Compare a [c] [b] _ => if cmpOf op = some c ∧ noSet b = true then some (a, b) else none
  | _ => none
def binE (op : Op2) : Expr → Option (Expr × Expr)
  | .BinOp a c b _ => if binOf op = some c then some (a, b) else none
  | _ => none
def ixE : Expr → Option (Expr × Expr)
  | .Subscript a b _ => if noSlice b = true then some (a, b) else none
  | _ => none
def methE1 (x : Str) : Expr → Option (Expr × Expr)
  | .Call (.Attribute a n p) [b] [] q => if n = x ∧ (p.endLine == q.line) = true ∧ noCall0 a = true ∧ noStar b = true then some (a, b) else none
  | _ => none
def sh2 (S : Sx) (op : Op2) (e : Expr) : Option (Expr × Expr) := match op with
  | .idx => ixE e
  | .join => methE1 "join" e
  | .eq | .ne | .lt | .le | .gt | .ge | .is | .isnot | .in_ | .notin => cmpE op e
  | .add | .sub | .mul | .mod | .pow => binE op e
  | _ => none
def tyName : Ty → Option Str
  | .int => some "int"
  | .str => some "str"
  | .bool => some "bool"
  | .tuple => some "tuple"
  | .list => some "list"
  | .intstr => none
def isiE (S : Sx) (t : Ty) : Expr → Option Expr
  | .Call (.Name n _) [a, .Name m _] [] _ => if n = ("isinstance" : Str) ∧ tyName t = some m ∧ glB S "isinstance" = true ∧ glB S m = true ∧ noStar a = true then some a else none
  | _ => none
def andE (op : BoolOp) : Expr → Option (Expr × Expr)
  | .BoolOp o (a :: b :: rest) p => if (o == op) = true then some (a, match rest with | [] => b | c :: r => .BoolOp o (b :: c :: r) p) else none
  | _ => none
mutual
def chkT (S : Sx) : Tg → Expr → Bool
  | .nm i, .Name x _ => locB S i x && !(S.M.contains i)
  | .tu ts, .Tuple es _ _ => chkTs S ts es
  | _, _ => false
def chkTs (S : Sx) : Tgs → List Expr → Bool
  | .nil, [] => true
  | .cons t ts, e :: es => noStar e && chkT S t e && chkTs S ts es
  | _, _ => false
end
mutual
def Tg.slots : Tg → List Nat
  | .nm i => [i]
  | .tu ts => Tgs.slots ts
def Tgs.slots : Tgs → List Nat
  | .nil => []
  | .cons t ts => Tg.slots t ++ Tgs.slots ts
end
/-- the block of a comprehension -/
def blkS (S : Sx) (scope : Scope) : Sx := { S with sc := relS scope S.sc, fnc := fun x => scope.names.lookup x == some .cell }
def ownOf (S : Sx) (t : Tg) : List (Str × Nat) := t.slots.map fun i => (S.N.getD i ("" : Str), i)
def lv (M : List Nat) : IE → Bool
  | .var i => M.contains i
  | _ => false
def smallStr (x : Str) : Bool := decide (x.length ≤ 1000) && PyData.strOk x
def rng1E (S : Sx) : Expr → Option Expr := bcall S "range"
def rng2E (S : Sx) : Expr → Option (Expr × Expr)
  | .Call (.Name n _) [a, b] [] _ => if n = ("range" : Str) ∧ glB S "range" = true ∧ noStar a = true ∧ noStar b = true then some (a, b) else none
  | _ => none
mutual
def chkE (S : Sx) : IE → Expr → Bool
  | .var i, e => match e with | .Name x _ => visB S i x | _ => false
  | .non, e => match e with | .Constant .none _ _ => true | _ => false
  | .bl b, e => match e with | .Constant (.bool c) _ _ => b == c | _ => false
  | .int i, e => match e with | .Constant (.int j) _ _ => decide (i = j) | _ => false
  | .str x, e => match e with | .Constant (.str y) _ _ => decide (x = y) && smallStr x | _ => false
  | .glob _ _, _ => false
  | .tup es, e => match e with | .Tuple xs _ _ => chkEs S es xs && decide (xs.length ≤ 1000) | _ => false
  | .lst es, e => match e with | .List xs _ => chkEs S es xs && decide (xs.length ≤ 1000) | _ => false
  | .o1 op a, e => match sh1 S op e with | some x => chkE S a x | none => false
  | .o2 op a b, e => match sh2 S op e with | some (x, y) => chkE S a x && chkE S b y | none => false
  | .o3 _ _ _ _, _ => false
  | .isi a t, e => match isiE S t e with | some x => chkE S a x | none => false
  | .and_ a b, e => match andE .And e with | some (x, y) => chkE S a x && chkE S b y && !(lv S.M a) && !(lv S.M b) | none => false
  | .or_ a b, e => match andE .Or e with | some (x, y) => chkE S a x && chkE S b y && !(lv S.M a) && !(lv S.M b) | none => false
  | .ifE c a b, e => match e with | .IfExp x y z _ => chkB S c x && chkE S a y && chkE S b z && !(lv S.M a) && !(lv S.M b) | _ => false
  | .chain o p a b c, e => match e with
    | .Compare x [o', p'] [y, z] _ => decide (cmpOf o = some o') && decide (cmpOf p = some p') && noSet y && noSet z && chkE S a x && chkE S b y && chkE S c z
    | _ => false
  | .call f es, e => match e with
    | .Call (.Name n _) (x :: xs) [] _ => (match S.fnm f with | some (m, ar) => decide (m = n) && decide ((x :: xs).length = ar) && !(n == ("__debug__" : Str)) | none => false) && glB S n && chkEs S es (x :: xs)
    | _ => false
  | .comp t it elt, e => match e with
    | .ListComp x [⟨tg, i, [], 0⟩] scope _ => chkIT S it i && noSet i && blkC S.N S.sc scope (ownOf S t) && chkT (blkS S scope) t tg && chkE (blkS S scope) elt x && !(lv S.M elt) && decide (t.slots.Nodup) && t.slots.all (fun i => decide (i < S.N.length) && !(S.M.contains i))
    | _ => false
  | .compIf t it c elt, e => match e with
    | .ListComp x [⟨tg, i, [y], 0⟩] scope _ => chkIT S it i && noSet i && blkC S.N S.sc scope (ownOf S t) && chkT (blkS S scope) t tg && chkB (blkS S scope) c y && chkE (blkS S scope) elt x && !(lv S.M elt) && decide (t.slots.Nodup) && t.slots.all (fun i => decide (i < S.N.length) && !(S.M.contains i))
    | _ => false
/-- as a test -/
def chkB (S : Sx) : IE → Expr → Bool
  | .and_ a b, e => match andE .And e with | some (x, y) => chkB S a x && chkB S b y | none => false
  | .or_ a b, e => match andE .Or e with | some (x, y) => chkB S a x && chkB S b y | none => false
  | .o1 .not a, e => match e with | .UnaryOp .Not x _ => chkB S a x | _ => false
  | .o2 op a b, e => match e with
    | .Compare x [c] [y] p => (match cmpE op (.Compare x [c] [y] p) with | some (x, y) => chkE S a x && chkE S b y | none => false)
    | e => plainTest e && (match sh2 S op e with | some (x, y) => chkE S a x && chkE S b y | none => false)
  | .chain o p a b c, e => match e with
    | .Compare x [o', p'] [y, z] _ => decide (cmpOf o = some o') && decide (cmpOf p = some p') && noSet y && noSet z && chkE S a x && chkE S b y && chkE S c z
    | _ => false
  | .var i, e => match e with | .Name x _ => visB S i x | _ => false
  | .isi a t, e => match isiE S t e with | some x => chkE S a x | none => false
  | .call f es, e => match e with
    | .Call (.Name n _) (x :: xs) [] _ => (match S.fnm f with | some (m, ar) => decide (m = n) && decide ((x :: xs).length = ar) && !(n == ("__debug__" : Str)) | none => false) && glB S n && chkEs S es (x :: xs)
    | _ => false
  | .o1 op a, e => plainTest e && (match sh1 S op e with | some x => chkE S a x | none => false)
  | _, _ => false
def chkEs (S : Sx) : IEs → List Expr → Bool
  | .nil, [] => true
  | .cons a as, e :: es => noStar e && chkE S a e && !(lv S.M a) && chkEs S as es
  | _, _ => false
def chkIT (S : Sx) : IT → Expr → Bool
  | .seq a, e => chkE S a e && !(lv S.M a)
  | .rng1 a, e => match rng1E S e with | some x => chkE S a x | none => false
  | .rng2 a b, e => match rng2E S e with | some (x, y) => chkE S a x && chkE S b y | none => false
  | _, _ => false
end
end Tq

/-! Tq, part G: what is known where a text runs; expressions. -/
namespace Tq
open PySem L2 Res

/-! ### slots and plain values -/
structure EnvR (K : PySem.W.Frag) (M : List Nat) (H : Hp) (Ps : List Addr) (σ : St) (env : En) : Prop where
  get : ∀ (i : Nat) (d : D), env[i]? = some (some d) → ∃ v, σ[i]? = some (some v) ∧ RL K H Ps (M.contains i) v d ∧ (M.contains i = true → Pv K H Ps v d)
  inj : ∀ (i j : Nat) (p : Addr) (d e : D), M.contains i = true → M.contains j = true → i ≠ j → env[i]? = some (some d) → env[j]? = some (some e) → σ[i]? = some (some (.ref p)) → σ[j]? = some (some (.ref p)) → False
  dom : ∀ q ∈ Ps, H q ≠ none
  len : σ.length = env.length
section
variable {K : PySem.W.Frag} {M : List Nat} {H H' : Hp} {Ps Ps' : List Addr} {σ : St} {env : En}
theorem EnvR.keep (r : EnvR K M H Ps σ env) (k : Keep Ps H Ps' H') : EnvR K M H' Ps' σ env where
  get := fun i d e => by
    obtain ⟨v, h1, h2, h3⟩ := r.get i d e
    exact ⟨v, h1, h2.keep k, fun z => (h3 z).keep k⟩
  inj := r.inj
  dom := k.dom
  len := r.len
theorem EnvR.same (r : EnvR K M H Ps σ env) (s : Same H H') : EnvR K M H' Ps σ env := r.keep (Keep.same r.dom s)
/-- a slot that is not hidden is set -/
theorem EnvR.set {i : Nat} {v : V} {d : D} (r : EnvR K M H Ps σ env) (hi : M.contains i = false) (h : Rp K (hide H Ps) v d) : EnvR K M H Ps (σ.set i (some v)) (env.set i (some d)) where
  get := fun j e he => by
    by_cases hj : i = j
    · subst hj
      by_cases hl : i < env.length
      · rw [List.getElem?_set_self hl] at he
        cases he
        exact ⟨v, List.getElem?_set_self (by rw [r.len]; exact hl), .of h, fun z => by rw [hi] at z; cases z⟩
      · rw [List.getElem?_eq_none (by simpa using hl)] at he; cases he
    · rw [List.getElem?_set_ne hj] at he ⊢
      exact r.get j e he
  inj := fun a b p d' e' ha hb hab h1 h2 h3 h4 => by
    have na : i ≠ a := fun z => by subst z; rw [hi] at ha; cases ha
    have nb : i ≠ b := fun z => by subst z; rw [hi] at hb; cases hb
    rw [List.getElem?_set_ne na] at h1 h3
    rw [List.getElem?_set_ne nb] at h2 h4
    exact r.inj a b p d' e' ha hb hab h1 h2 h3 h4
  dom := r.dom
  len := by simp [r.len]
end

/-! ### what a reading comes to -/
def EvD (K : PySem.W.Frag) (t : TE) (σ : St) (H : Hp) (Ps : List Addr) (b : Bool) (d : D) : Prop :=
  ∀ H0, Same H H0 → ∀ Q : VK, (∀ v H1, Same H0 H1 → RL K H1 Ps b v d → Q v H1) → t σ H0 Q
def EvB (t : TT) (σ : St) (H : Hp) (b : Bool) : Prop :=
  ∀ H0, Same H H0 → ∀ Q : Bool → Hp → Prop, (∀ H1, Same H0 H1 → Q b H1) → t σ H0 Q
def EvA (K : PySem.W.Frag) (t : TA) (σ : St) (H : Hp) (Ps : List Addr) (ds : List D) : Prop :=
  ∀ H0, Same H H0 → ∀ Q : List V → Hp → Prop, (∀ vs H1, Same H0 H1 → RpAll K (hide H1 Ps) vs ds → Q vs H1) → t σ H0 Q
section
variable {K : PySem.W.Frag} {σ : St} {H H' : Hp} {Ps : List Addr} {b c : Bool} {d e x : D} {ta tb : TE} {dom : ∀ q ∈ Ps, H q ≠ none}
theorem dom_same (dom : ∀ q ∈ Ps, H q ≠ none) (s : Same H H') : ∀ q ∈ Ps, H' q ≠ none := fun q hq z => dom q hq (s.free z)
theorem EvD.mono {t : TE} (h : EvD K t σ H Ps b d) (s : Same H H') : EvD K t σ H' Ps b d := fun H0 s0 Q q => h H0 (s.trans s0) Q q
theorem RL.same {v : V} (h : RL K H Ps b v d) (dom : ∀ q ∈ Ps, H q ≠ none) (s : Same H H') : RL K H' Ps b v d := h.keep (Keep.same dom s)
theorem ev1 {f : D → Res D} {r : V → Hp → VK → Prop} (dom : ∀ q ∈ Ps, H q ≠ none) (hr : R1ok K f r) (ha : EvD K ta σ H Ps b d) (hx : f d = .ok x) : EvD K (tUn r ta) σ H Ps false x := fun H0 s0 Q q =>
  ha H0 s0 _ fun v H1 s1 rv => hr v H1 Ps d x b Q (dom_same dom (s0.trans s1)) rv hx fun u H2 s2 ru => q u H2 (s1.trans s2) (.of ru)
theorem ev2 {f : D → D → Res D} {r : R2} (dom : ∀ q ∈ Ps, H q ≠ none) (hr : R2ok K f r) (ha : EvD K ta σ H Ps b d) (hb : EvD K tb σ H Ps c e) (hx : f d e = .ok x) : EvD K (tOp r ta tb) σ H Ps false x := fun H0 s0 Q q =>
  ha H0 s0 _ fun v H1 s1 rv => hb H1 (s0.trans s1) _ fun w H2 s2 rw => hr v w H2 Ps d e x b c Q (dom_same dom ((s0.trans s1).trans s2)) (rv.same (dom_same dom (s0.trans s1)) s2) rw hx fun u H3 s3 ru => q u H3 ((s1.trans s2).trans s3) (.of ru)
/-- a test by an expression's truth -/
theorem evT {t : Bool} (dom : ∀ q ∈ Ps, H q ≠ none) (ha : EvD K ta σ H Ps b d) (ht : truth d = .ok t) : EvB (fun σ H Q => ta σ H fun x H' => ∃ k, TruV K x H' k ∧ Q k H') σ H t := fun H0 s0 Q q =>
  ha H0 s0 _ fun v H1 s1 rv => ⟨t, tru_of rv ht, q H1 s1⟩
/-- a comparison's test -/
theorem evTest {t : Bool} (ha : EvD K ta σ H Ps b (.bool t)) : EvB (tTest ta) σ H t := fun H0 s0 Q q =>
  ha H0 s0 _ fun v H1 s1 rv => ⟨t, rv.bl, q H1 s1⟩
end

/-! ### the context -/
/-- what a def of ours promises -/
def spF (K : PySem.W.Frag) (ar : Nat) (r : List D → Res D) : Sp := fun vs H Q E => vs.length = ar ∧ ∃ (ds : List D) (Ps : List Addr) (d : D), RpAll K (hide H Ps) vs ds ∧ (∀ q ∈ Ps, H q ≠ none) ∧ r ds = .ok d ∧
  ∀ v H', Same H H' → Rp K (hide H' Ps) v d → Q v H'
structure Gd (S : Sx) (k : Nat) (defs : Nat → Option FDef) (K : PySem.W.Frag) (X : Cx) : Prop where
  hK : X.K = K
  N : X.N = S.N
  nd : S.N.Nodup
  sc : X.env.scope = S.sc
  calm : X.calm = true
  room : Room k X.A
  fn : X.fn = S.fnc
  free : ∀ x ∈ freeNames, X.mg x = none
  fns : ∀ (f : Nat) (x : Str) (ar : Nat), S.fnm f = some (x, ar) → ∃ a fd ps, X.mg x = some (.ref a) ∧ PySem.W.keepIn X.K (.ref a) = true ∧ Binds X.K fd ps [] ∧
    FnOk X.prog X.w X.K X.mg X.base (L2.CX X.prog X.w) k a fd ps (spF X.K ar (callF defs k f))
section
variable {S : Sx} {k : Nat} {defs : Nat → Option FDef} {K : PySem.W.Frag} {X : Cx}
theorem Gd.vis (g : Gd S k defs K X) {i : Nat} {x : Str} (h : visB S i x = true) : X.N[i]? = some x ∧ Vis X.env.scope x ∧ (x == ("__debug__" : Str)) = false ∧ (x == ("__classdict__" : Str)) = false := by
  unfold visB at h
  simp only [Bool.and_eq_true, decide_eq_true_eq, Bool.not_eq_true'] at h
  obtain ⟨⟨⟨h1, h2⟩, h3⟩, h4⟩ := h
  refine ⟨by rw [g.N]; exact h1, ?_, h3, h4⟩
  rw [g.sc]
  unfold Vis
  cases e : S.sc.names.lookup x with
  | none => rw [e] at h2; cases h2
  | some kd => cases kd <;> first | (rw [e] at h2; cases h2; done) | simp
theorem Gd.gl (g : Gd S k defs K X) {x : Str} (h : glB S x = true) : Gl X x := by
  unfold glB at h
  show X.env.scope.names.lookup x = _
  rw [g.sc]
  cases e : S.sc.names.lookup x with
  | none => rw [e] at h; cases h
  | some kd => cases kd <;> first | (rw [e] at h; cases h; done) | rfl
theorem Gd.loc (g : Gd S k defs K X) {i : Nat} {x : Str} (h : locB S i x = true) : X.N[i]? = some x ∧ L2.Loc X.env.scope x ∧ (X.fn x = true ∨ X.env.scope.names.lookup x = some .local) := by
  unfold locB at h
  simp only [Bool.and_eq_true, decide_eq_true_eq] at h
  obtain ⟨h1, h2⟩ := h
  refine ⟨by rw [g.N]; exact h1, ?_⟩
  rw [g.sc, g.fn]
  unfold L2.Loc
  cases e : S.sc.names.lookup x with
  | none => rw [e] at h2; cases h2
  | some kd => cases kd <;> first | (rw [e] at h2; cases h2; done) | (rw [e] at h2; simp; try exact h2)
theorem Gd.hu (g : Gd S k defs K X) : X.A.units + 64 < cLine := g.room.units
end
theorem star1 {e : Expr} {es : List Expr} {env : Env} (h : noStar e = true) : starEach (e :: es) env = (false, eval e env) :: starEach es env := by
  cases e <;> first | rfl | cases h
theorem sub_plain {b : Expr} (h : noSlice b = true) : PlainIx b := fun o i => by
  cases b <;> first | rfl | cases h
theorem base_plain {o : Expr} {n : Str} {env : Env} (h : noCall0 o = true) : attributeBase o n env (eval o env) = eval o env := by
  unfold attributeBase
  cases o with
  | Call f as ks p =>
    cases f <;> first | rfl | skip
    cases as <;> first | rfl | skip
    cases ks <;> first | rfl | cases h
  | _ => rfl
theorem mark_plain {op : CmpOp} {b : Expr} (h : noSet b = true) : behindInMarks op b = false := by
  cases b <;> first | rfl | cases h
theorem test_plain {e : Expr} {env : Env} (h : plainTest e = true) (whole : Sem Value) : isTrue e env whole = (do let v ← whole; standAt e.pos; holding [v] (truthy v)) := by
  cases e with
  | UnaryOp op x p => cases op <;> first | rfl | cases h
  | BoolOp _ _ _ => cases h
  | IfExp _ _ _ _ => cases h
  | Compare _ _ _ _ => cases h
  | _ => rfl

/-! ### comparisons, operators -/
section
variable {S : Sx} {k : Nat} {defs : Nat → Option FDef} {K : PySem.W.Frag} {X : Cx}
theorem cmp_ok : ∀ {op : Op2} {c : CmpOp}, cmpOf op = some c → ∃ r, (∀ X, Gd S k defs K X → OpR X (compareOp c) r) ∧ R2ok K (op2 op) r
  | .eq, _, h => by cases h; exact ⟨rEqM K, fun X g => g.hK ▸ op_eqM g.hu, r_eq⟩
  | .ne, _, h => by cases h; exact ⟨rNeM K, fun X g => g.hK ▸ op_neM g.hu, r_ne⟩
  | .lt, _, h => by cases h; exact ⟨rLtAll, fun X g => op_lt.or op_lt_str, r_lt⟩
  | .le, _, h => by cases h; exact ⟨rLeAll, fun X g => op_le.or op_le_str, r_le⟩
  | .gt, _, h => by cases h; exact ⟨_, fun X g => op_gt, r_gt⟩
  | .ge, _, h => by cases h; exact ⟨_, fun X g => op_ge, r_ge⟩
  | .is, _, h => by cases h; exact ⟨rIsAll, fun X g => op_isN.or op_isB, r_is⟩
  | .isnot, _, h => by cases h; exact ⟨rIsNotAll, fun X g => op_notN.or op_notB, r_isnot⟩
  | .in_, _, h => by cases h; exact ⟨rInAll K false, fun X g => g.hK ▸ op_in_sign.or (op_inM g.hu), r_in⟩
  | .notin, _, h => by cases h; exact ⟨rInAll K true, fun X g => g.hK ▸ op_notIn_sign.or (op_notInM g.hu), r_notin⟩
  | .add, _, h | .sub, _, h | .mul, _, h | .mod, _, h | .fdiv, _, h | .pow, _, h | .idx, _, h | .fm, _, h | .to, _, h | .min2, _, h | .max2, _, h | .index, _, h | .join, _, h | .count, _, h => by cases h
theorem bin_ok : ∀ {op : Op2} {c : Operator}, binOf op = some c → ∃ r, (∀ X : Cx, X.K = K → OpR X (binaryOp c) r) ∧ R2ok K (op2 op) r
  | .add, _, h => by cases h; exact ⟨rAddAll K, fun X g => g ▸ op_add.or (op_add_str.or (op_cat.or op_catA)), r_add⟩
  | .sub, _, h => by cases h; exact ⟨_, fun X g => op_sub, r_sub⟩
  | .mul, _, h => by cases h; exact ⟨_, fun X g => op_mul, r_mul⟩
  | .mod, _, h => by cases h; exact ⟨_, fun X g => op_mod, r_mod⟩
  | .pow, _, h => by cases h; exact ⟨_, fun X g => op_pow, r_pow⟩
  | .eq, _, h | .ne, _, h | .lt, _, h | .le, _, h | .gt, _, h | .ge, _, h | .is, _, h | .isnot, _, h | .in_, _, h | .notin, _, h | .fdiv, _, h | .idx, _, h | .fm, _, h | .to, _, h | .min2, _, h | .max2, _, h | .index, _, h | .join, _, h | .count, _, h => by cases h
/-- two places: how an expression comes of its parts -/
def Sem2 (C : Cx → Prop) (K : PySem.W.Frag) (e x y : Expr) (ta tb : TE) (f : D → D → Res D) : Prop := ∃ t, (∀ X, C X → PE X x ta → PE X y tb → PE X e t) ∧
  ∀ σ H Ps b c d d' z, (∀ q ∈ Ps, H q ≠ none) → EvD K ta σ H Ps b d → EvD K tb σ H Ps c d' → f d d' = .ok z → EvD K t σ H Ps false z
def Sem1 (C : Cx → Prop) (K : PySem.W.Frag) (e x : Expr) (ta : TE) (f : D → Res D) : Prop := ∃ t, (∀ X, C X → PE X x ta → PE X e t) ∧
  ∀ σ H Ps b d z, (∀ q ∈ Ps, H q ≠ none) → EvD K ta σ H Ps b d → f d = .ok z → EvD K t σ H Ps false z
theorem sem2_of {C : Cx → Prop} {e x y : Expr} {ta tb : TE} {f : D → D → Res D} {r : R2} (h : ∀ X, C X → PE X x ta → PE X y tb → PE X e (tOp r ta tb)) (hr : R2ok K f r) : Sem2 C K e x y ta tb f :=
  ⟨_, h, fun _ _ _ _ _ _ _ _ dom ha hb hx => ev2 dom hr ha hb hx⟩
theorem sem1_of {C : Cx → Prop} {e x : Expr} {ta : TE} {f : D → Res D} {r : V → Hp → VK → Prop} (h : ∀ X, C X → PE X x ta → PE X e (tUn r ta)) (hr : R1ok K f r) : Sem1 C K e x ta f :=
  ⟨_, h, fun _ _ _ _ _ _ dom ha hx => ev1 dom hr ha hx⟩
theorem cmpE_ok {op : Op2} {e x y : Expr} (h : cmpE op e = some (x, y)) : ∃ c p, e = .Compare x [c] [y] p ∧ cmpOf op = some c ∧ noSet y = true := by
  unfold cmpE at h
  split at h
  · split at h
    · rename_i hc
      cases h
      exact ⟨_, _, rfl, hc.1, hc.2⟩
    · cases h
  · cases h
theorem binE_ok {op : Op2} {e x y : Expr} (h : binE op e = some (x, y)) : ∃ c p, e = .BinOp x c y p ∧ binOf op = some c := by
  unfold binE at h
  split at h
  · split at h
    · rename_i hc
      cases h
      exact ⟨_, _, rfl, hc⟩
    · cases h
  · cases h
theorem ixE_ok {e x y : Expr} (h : ixE e = some (x, y)) : ∃ p, e = .Subscript x y p ∧ noSlice y = true := by
  unfold ixE at h
  split at h
  · split at h
    · rename_i hc
      cases h
      exact ⟨_, rfl, hc⟩
    · cases h
  · cases h
theorem methE1_ok {n : Str} {e x y : Expr} (h : methE1 n e = some (x, y)) : ∃ p q, e = .Call (.Attribute x n p) [y] [] q ∧ (p.endLine == q.line) = true ∧ noCall0 x = true ∧ noStar y = true := by
  unfold methE1 at h
  split at h
  · split at h
    · rename_i hc
      cases h
      obtain ⟨rfl, h1, h2, h3⟩ := hc
      exact ⟨_, _, rfl, h1, h2, h3⟩
    · cases h
  · cases h
theorem bcall_ok {S : Sx} {n : Str} {e x : Expr} (h : bcall S n e = some x) : ∃ p q, e = .Call (.Name n p) [x] [] q ∧ glB S n = true ∧ noStar x = true := by
  unfold bcall at h
  split at h
  · split at h
    · rename_i hc
      cases h
      obtain ⟨rfl, h1, h2⟩ := hc
      exact ⟨_, _, rfl, h1, h2⟩
    · cases h
  · cases h
theorem unE_ok {u : UnaryOp} {e x : Expr} (h : unE u e = some x) : ∃ v p, e = .UnaryOp v x p ∧ (v == u) = true := by
  unfold unE at h
  split at h
  · split at h
    · rename_i hc
      cases h
      exact ⟨_, _, rfl, hc⟩
    · cases h
  · cases h
theorem Sem2.cmp {op : Op2} {e x y : Expr} {ta tb : TE} (h : cmpE op e = some (x, y)) : Sem2 (Gd S k defs K) K e x y ta tb (op2 op) := by
  obtain ⟨c, p, rfl, h1, h2⟩ := cmpE_ok h
  obtain ⟨r, ho, hr⟩ := cmp_ok (S := S) (k := k) (defs := defs) (K := K) h1
  exact sem2_of (fun X g hx hy => pe_cmpR (ho X g) hx hy (mark_plain h2)) hr
theorem Sem2.bin {op : Op2} {e x y : Expr} {ta tb : TE} (h : binE op e = some (x, y)) : Sem2 (Gd S k defs K) K e x y ta tb (op2 op) := by
  obtain ⟨c, p, rfl, h1⟩ := binE_ok h
  obtain ⟨r, ho, hr⟩ := bin_ok (K := K) h1
  exact sem2_of (fun X g hx hy => pe_op (ho X g.hK) hx hy) hr
theorem Sem2.ix {e x y : Expr} {ta tb : TE} (h : ixE e = some (x, y)) : Sem2 (Gd S k defs K) K e x y ta tb idxD := by
  obtain ⟨p, rfl, h1⟩ := ixE_ok h
  exact sem2_of (fun X g hx hy => g.hK ▸ pe_ix ix_seq hx hy (sub_plain h1)) r_idx
theorem strOk_join (s : Str) (hs : PyData.strOk s = true) : ∀ xs : List Str, (∀ x ∈ xs, PyData.strOk x = true) → PyData.strOk (Str.join s xs) = true
  | [], _ => by unfold PyData.strOk; simp [Str.join, Str.empty]
  | [x], h => h x (by simp)
  | x :: y :: r, h => by
    show PyData.strOk (x ++ s ++ Str.join s (y :: r)) = true
    exact strOk_append (strOk_append (h x (by simp)) hs) (strOk_join s hs (y :: r) fun z hz => h z (List.mem_cons_of_mem _ hz))
theorem length_join (s : Str) : ∀ xs : List Str, (Str.join s xs).length ≤ (xs.map Str.length).sum + xs.length * s.length
  | [] => by show 0 ≤ _; omega
  | [x] => by
    show x.length ≤ _
    simp only [List.map_cons, List.map_nil, List.sum_cons, List.sum_nil, List.length_cons, List.length_nil]
    omega
  | x :: y :: r => by
    have ih := length_join s (y :: r)
    show (x ++ s ++ Str.join s (y :: r)).length ≤ _
    rw [length_append_str, length_append_str, List.map_cons, List.sum_cons, List.length_cons, Nat.add_mul]
    omega
theorem line_eq : (sizeLine : Nat) = 16777216 := sizeLine_eq
theorem Sem2.join {e x y : Expr} {ta tb : TE} (h : methE1 "join" e = some (x, y)) : Sem2 (Gd S k defs K) K e x y ta tb joinD := by
  obtain ⟨p, q, rfl, h1, h2, h3⟩ := methE1_ok h
  refine ⟨_, fun X g hx hy => g.hK ▸ pe_join hx hy (star1 h3) (base_plain h2) h1, fun σ H Ps b c d d' z dom ha hb hz H0 s0 Q qq => ?_⟩
  cases d with
  | str s =>
    cases d' with
    | list ds =>
      refine ha H0 s0 _ fun v H1 s1 rv => ?_
      obtain ⟨rfl, a1, a2⟩ := rv.str
      refine ⟨⟨s, rfl⟩, hb H1 (s0.trans s1) _ fun w H2 s2 rw => ?_⟩
      obtain ⟨a, vs, rfl, e1, r, zz⟩ := rw.list
      have hz' : (match strsD ds with | some (xs : List Str) => if fits ((xs.map Str.length).sum + xs.length * s.length) then Res.ok (PyData.str (Str.join s xs)) else .bad | none => .bad) = .ok z := hz
      cases hs : strsD ds with
      | none => rw [hs] at hz'; cases hz'
      | some xs =>
        rw [hs] at hz'
        obtain ⟨b1, b2⟩ := strs_of r hs
        by_cases hf : fits ((xs.map Str.length).sum + xs.length * s.length) = true
        · have hz2 : (if fits ((xs.map Str.length).sum + xs.length * s.length) = true then Res.ok (PyData.str (Str.join s xs)) else .bad) = .ok z := hz'
          rw [if_pos hf] at hz2; cases hz2
          have hf' : (xs.map Str.length).sum + xs.length * s.length ≤ sizeLine := of_decide_eq_true hf
          refine ⟨s, a, xs, rfl, rfl, .inl (SqL.of (by rw [← b1]; exact e1)), by rw [← line_eq]; exact hf', ?_⟩
          have e : Txt.join s xs = Str.join s xs := PySem.StrLaws.glued_eq_join s xs
          rw [e]
          exact qq _ _ (s1.trans s2) (.of (.str (Nat.le_trans (length_join s xs) hf') (strOk_join s a2 xs b2)))
        · have hz2 : (if fits ((xs.map Str.length).sum + xs.length * s.length) = true then Res.ok (PyData.str (Str.join s xs)) else .bad) = .ok z := hz'
          rw [if_neg hf] at hz2; cases hz2
    | _ => cases hz
  | _ => cases hz
theorem sem2_ok {op : Op2} {e x y : Expr} {ta tb : TE} (h : sh2 S op e = some (x, y)) : Sem2 (Gd S k defs K) K e x y ta tb (op2 op) := by
  cases op <;> first | exact Sem2.cmp h | exact Sem2.bin h | exact Sem2.ix h | exact Sem2.join h | cases h
theorem boot_any : bootBuiltins "any" = some (.builtin "any") := by decide +kernel
theorem boot_all : bootBuiltins "all" = some (.builtin "all") := by decide +kernel
theorem boot_tuple' : bootBuiltins "tuple" = some (.type "tuple") := by decide +kernel
theorem boot_list' : bootBuiltins "list" = some (.type "list") := by decide +kernel
theorem boot_int' : bootBuiltins "int" = some (.type "int") := by decide +kernel
theorem sem1_ok {op : Op1} {e x : Expr} {ta : TE} (h : sh1 S op e = some x) : Sem1 (Gd S k defs K) K e x ta (op1 op) := by
  cases op with
  | neg =>
    obtain ⟨v, p, rfl, hv⟩ := unE_ok (show unE .USub e = some x from h)
    have : v = .USub := by simpa using hv
    subst this
    exact sem1_of (fun X g hx => pe_un un_neg hx) r_neg
  | not =>
    obtain ⟨v, p, rfl, hv⟩ := unE_ok (show unE .Not e = some x from h)
    have : v = .Not := by simpa using hv
    subst this
    exact sem1_of (fun X g hx => g.hK ▸ pe_notT hx) r_not
  | len =>
    obtain ⟨p, q, rfl, h1, h2⟩ := bcall_ok (show bcall S "len" e = some x from h)
    exact sem1_of (fun X g hx => g.hK ▸ pe_callB call_len (g.gl h1) (g.free _ (by decide +kernel)) PySem.boot_len (pa_cons hx pa_nil (star1 h2)) (he := star1 h2)) r_len
  | any =>
    obtain ⟨p, q, rfl, h1, h2⟩ := bcall_ok (show bcall S "any" e = some x from h)
    exact sem1_of (fun X g hx => g.hK ▸ pe_callB (cr_any g.calm) (g.gl h1) (g.free _ (by decide +kernel)) boot_any (pa_cons hx pa_nil (star1 h2)) (he := star1 h2)) r_any
  | all =>
    obtain ⟨p, q, rfl, h1, h2⟩ := bcall_ok (show bcall S "all" e = some x from h)
    exact sem1_of (fun X g hx => g.hK ▸ pe_callB (cr_all g.calm) (g.gl h1) (g.free _ (by decide +kernel)) boot_all (pa_cons hx pa_nil (star1 h2)) (he := star1 h2)) r_all
  | tuple =>
    obtain ⟨p, q, rfl, h1, h2⟩ := bcall_ok (show bcall S "tuple" e = some x from h)
    exact sem1_of (fun X g hx => g.hK ▸ pe_callTy call_tuple_of (g.gl h1) (g.free _ (by decide +kernel)) boot_tuple' (pa_cons hx pa_nil (star1 h2)) (he := star1 h2)) r_tuple
  | list =>
    obtain ⟨p, q, rfl, h1, h2⟩ := bcall_ok (show bcall S "list" e = some x from h)
    exact sem1_of (fun X g hx => g.hK ▸ pe_callTy call_list_of (g.gl h1) (g.free _ (by decide +kernel)) boot_list' (pa_cons hx pa_nil (star1 h2)) (he := star1 h2)) r_list
  | int =>
    obtain ⟨p, q, rfl, h1, h2⟩ := bcall_ok (show bcall S "int" e = some x from h)
    exact sem1_of (fun X g hx => pe_callTy call_int1 (g.gl h1) (g.free _ (by decide +kernel)) boot_int' (pa_cons hx pa_nil (star1 h2)) (he := star1 h2)) r_int
  | _ => cases h
end
end Tq

/-! Tq, part H: isinstance, targets, what is walked. -/
namespace Tq
open PySem L2 Res

/-! ### isinstance -/
def tyS : D → String
  | .none => "NoneType"
  | .bool _ => "bool"
  | .int _ => "int"
  | .str _ => "str"
  | .list _ => "list"
  | .tuple _ => "tuple"
  | .dict _ => "dict"
def tyN : Ty → String
  | .int => "int"
  | .str => "str"
  | .bool => "bool"
  | .tuple => "tuple"
  | .list => "list"
  | .intstr => "int"
theorem kit_all : (["NoneType", "bool", "int", "str", "list", "tuple"] : List String).all (fun a => (["int", "str", "bool", "tuple", "list"] : List String).all fun b => decide (kitB a b = some (decide (a = b) || (decide (a = "bool") && decide (b = "int"))))) = true := by decide +kernel
theorem kit_at {d : D} {t : Ty} (hd : ∀ k, d ≠ .dict k) (ht : t ≠ .intstr) : kitB (tyS d) (tyN t) = some (isTy d t) := by
  have h := kit_all
  simp only [List.all_cons, List.all_nil, Bool.and_true, Bool.and_eq_true, decide_eq_true_eq] at h
  cases d with
  | dict k => exact absurd rfl (hd k)
  | none => cases t <;> first | exact absurd rfl ht | (refine Eq.trans ?_ (by rfl : some _ = some _); simp only [tyS, tyN, isTy, h]; rfl)
  | bool b => cases t <;> first | exact absurd rfl ht | (refine Eq.trans ?_ (by rfl : some _ = some _); simp only [tyS, tyN, isTy, h]; rfl)
  | int i => cases t <;> first | exact absurd rfl ht | (refine Eq.trans ?_ (by rfl : some _ = some _); simp only [tyS, tyN, isTy, h]; rfl)
  | str x => cases t <;> first | exact absurd rfl ht | (refine Eq.trans ?_ (by rfl : some _ = some _); simp only [tyS, tyN, isTy, h]; rfl)
  | list x => cases t <;> first | exact absurd rfl ht | (refine Eq.trans ?_ (by rfl : some _ = some _); simp only [tyS, tyN, isTy, h]; rfl)
  | tuple x => cases t <;> first | exact absurd rfl ht | (refine Eq.trans ?_ (by rfl : some _ = some _); simp only [tyS, tyN, isTy, h]; rfl)
theorem sqT_ty {K : PySem.W.Frag} {H : Hp} {a : Addr} {xs : List V} (h : SqT K H a xs) : TyX K H (.ref a) (.type "tuple") := by
  rcases h with (h | ⟨o, h⟩) | ⟨o, its, n, h, hc, _⟩
  · exact .base (.tup h)
  · exact .fTuple h
  · exact .kTuple h hc
theorem RL.ty {K : PySem.W.Frag} {H : Hp} {Ps : List Addr} {b : Bool} {v : V} {d : D} (h : RL K H Ps b v d) (hd : ∀ k, d ≠ .dict k) : TyX K H v (.type (tyS d)) := by
  cases d with
  | dict k => exact absurd rfl (hd k)
  | none => cases h.non; exact .base .non
  | bool c => cases h.bl; exact .base (.bl c)
  | int i => cases h.int; exact .base (.int i)
  | str x => obtain ⟨rfl, _⟩ := h.str; exact .base (.str x)
  | list ds => obtain ⟨a, xs, rfl, e, _⟩ := h.list; exact .base (.lst e)
  | tuple ds => obtain ⟨a, xs, rfl, e, _⟩ := h.tuple; exact sqT_ty e
theorem isiE_ok {S : Sx} {t : Ty} {e x : Expr} (h : isiE S t e = some x) : ∃ p p2 q m, e = .Call (.Name "isinstance" p) [x, .Name m p2] [] q ∧ tyName t = some m ∧ glB S "isinstance" = true ∧ glB S m = true ∧ noStar x = true := by
  unfold isiE at h
  split at h
  · split at h
    · rename_i hc
      cases h
      obtain ⟨rfl, h1, h2, h3, h4⟩ := hc
      exact ⟨_, _, _, _, rfl, h1, h2, h3, h4⟩
    · cases h
  · cases h
theorem boot_isi : bootBuiltins "isinstance" = some (.builtin "isinstance") := by decide +kernel
theorem boot_ty : ∀ {t : Ty} {m : Str}, tyName t = some m → t ≠ .intstr ∧ m ∈ freeNames ∧ bootBuiltins m = some (.type (tyN t)) ∧ m ≠ "__name__" ∧ (m == ("__debug__" : Str)) = false
  | .int, _, h => by cases h; exact ⟨nofun, by decide +kernel, by decide +kernel, by decide +kernel, by decide +kernel⟩
  | .str, _, h => by cases h; exact ⟨nofun, by decide +kernel, by decide +kernel, by decide +kernel, by decide +kernel⟩
  | .bool, _, h => by cases h; exact ⟨nofun, by decide +kernel, by decide +kernel, by decide +kernel, by decide +kernel⟩
  | .tuple, _, h => by cases h; exact ⟨nofun, by decide +kernel, by decide +kernel, by decide +kernel, by decide +kernel⟩
  | .list, _, h => by cases h; exact ⟨nofun, by decide +kernel, by decide +kernel, by decide +kernel, by decide +kernel⟩
  | .intstr, _, h => by cases h
section
variable {S : Sx} {k : Nat} {defs : Nat → Option FDef} {K : PySem.W.Frag} {X : Cx}
theorem Sem1.isi {t : Ty} {e x : Expr} {ta : TE} (h : isiE S t e = some x) : Sem1 (Gd S k defs K) K e x ta (isiD t) := by
  obtain ⟨p, p2, q, m, rfl, h1, h2, h3, h4⟩ := isiE_ok h
  obtain ⟨b0, b1, b2, b3, b4⟩ := boot_ty h1
  refine ⟨_, fun X g hx => g.hK ▸ pe_callB call_isi (g.gl h2) (g.free _ (by decide +kernel)) boot_isi (pa_cons hx (pa_cons (pe_bltn (v := .ty (tyN t)) (g.gl h3) (g.free _ b1) b2 rfl b3 b4) pa_nil) (star1 h4)) (he := star1 h4), fun σ H Ps b d z dom ha hz H0 s0 Q qq => ?_⟩
  refine ha H0 s0 _ fun v H1 s1 rv => ?_
  have hd : ∀ kk, d ≠ .dict kk := fun kk e => by subst e; cases hz
  have hz' : Res.ok (PyData.bool (isTy d t)) = .ok z := by cases d <;> first | exact hz | exact absurd rfl (hd _)
  cases hz'
  exact ⟨v, .ty (tyN t), _, _, _, rfl, .ty _, rv.ty hd, kit_ty (kit_at hd b0), qq _ _ s1 (.of (.bl _))⟩
end

/-! ### targets -/
theorem asg_star {e : Expr} {es : List Expr} {env : Env} (h : noStar e = true) : assignEach (e :: es) env = (false, assign e env) :: assignEach es env := by
  cases e <;> first | rfl | cases h
theorem asg_len {S : Sx} {env : Env} : ∀ {ts : Tgs} {es : List Expr}, chkTs S ts es = true → (assignEach es env).length = es.length ∧ (assignEach es env).findIdx? (·.1) = none
  | .nil, [], _ => ⟨rfl, rfl⟩
  | .nil, _ :: _, h => by simp [chkTs] at h
  | .cons _ _, [], h => by simp [chkTs] at h
  | .cons t ts, e :: es, h => by
    simp only [chkTs, Bool.and_eq_true] at h
    obtain ⟨a, b⟩ := asg_len (env := env) h.2
    rw [asg_star h.1.1]
    refine ⟨by simp [a], ?_⟩
    rw [List.findIdx?_cons]
    simp [b]
/-- like slots outside -/
def Out (ns : List Nat) {α : Type} (a b : List α) : Prop := a.length = b.length ∧ ∀ i, i ∉ ns → a[i]? = b[i]?
theorem Out.refl {ns : List Nat} {α : Type} (a : List α) : Out ns a a := ⟨rfl, fun _ _ => rfl⟩
theorem Out.trans {ns : List Nat} {α : Type} {a b c : List α} (h : Out ns a b) (h' : Out ns b c) : Out ns a c := ⟨h.1.trans h'.1, fun i hi => (h.2 i hi).trans (h'.2 i hi)⟩
theorem Out.mono {ns ms : List Nat} {α : Type} {a b : List α} (h : Out ns a b) (s : ∀ i ∈ ns, i ∈ ms) : Out ms a b := ⟨h.1, fun i hi => h.2 i fun z => hi (s i z)⟩
section
variable {S : Sx} {k : Nat} {defs : Nat → Option FDef} {K : PySem.W.Frag} {X : Cx}
/-- what a target does -/
def TgOk (K : PySem.W.Frag) (M : List Nat) (t : Tg) (g : TG) : Prop := ∀ v σ H Ps env env' d Q, EnvR K M H Ps σ env → Rp K (hide H Ps) v d → t.put d env = .ok env' → (∀ σ', Out t.slots σ' σ → EnvR K M H Ps σ' env' → Q σ' H) → g v σ H Q
def TgsOk (K : PySem.W.Frag) (M : List Nat) (t : Tgs) (g : TGs) : Prop := ∀ vs σ H Ps env env' ds Q, EnvR K M H Ps σ env → RpAll K (hide H Ps) vs ds → t.put ds env = .ok env' → (∀ σ', Out t.slots σ' σ → EnvR K M H Ps σ' env' → Q σ' H) → g vs σ H Q
mutual
def tgR (K : PySem.W.Frag) : Tg → TG
  | .nm i => gName i
  | .tu ts => gTup K (tgN ts) (tgsR K ts)
def tgsR (K : PySem.W.Frag) : Tgs → TGs
  | .nil => gNil
  | .cons t ts => gCons (tgR K t) (tgsR K ts)
def tgN : Tgs → Nat
  | .nil => 0
  | .cons _ ts => tgN ts + 1
end
theorem tgN_len : ∀ {ts : Tgs} {es : List Expr}, chkTs S ts es = true → es.length = tgN ts
  | .nil, [], _ => rfl
  | .nil, _ :: _, h => by simp [chkTs] at h
  | .cons _ _, [], h => by simp [chkTs] at h
  | .cons t ts, e :: es, h => by
    simp only [chkTs, Bool.and_eq_true] at h
    rw [List.length_cons, tgN_len h.2]; rfl
mutual
theorem tg_pg (g : Gd S k defs K X) : ∀ {t : Tg} {e : Expr}, chkT S t e = true → PG X e (tgR K t)
  | .nm i, e, h => by
    cases e with
    | Name x p =>
      simp only [chkT, Bool.and_eq_true, Bool.not_eq_true'] at h
      obtain ⟨l1, l2, l3⟩ := g.loc h.1
      exact pg_name (by rw [g.N]; exact g.nd) l1 l2 l3
    | _ => simp [chkT] at h
  | .tu ts, e, h => by
    cases e with
    | Tuple es kk p =>
      have h' : chkTs S ts es = true := by simpa [chkT] using h
      obtain ⟨a, b⟩ := asg_len (env := X.env) h'
      exact g.hK ▸ pg_tup g.calm (g.hK ▸ tgs_pg g h') (by rw [a, tgN_len h']) b
    | _ => simp [chkT] at h
theorem tgs_pg (g : Gd S k defs K X) : ∀ {ts : Tgs} {es : List Expr}, chkTs S ts es = true → PGs X es (tgsR K ts)
  | .nil, [], _ => pgs_nil
  | .nil, _ :: _, h => by simp [chkTs] at h
  | .cons _ _, [], h => by simp [chkTs] at h
  | .cons t ts, e :: es, h => by
    simp only [chkTs, Bool.and_eq_true] at h
    exact pgs_cons (tg_pg g h.1.2) (tgs_pg g h.2) (by rw [asg_star h.1.1]; rfl)
end
mutual
theorem tg_ok : ∀ {t : Tg} {e : Expr}, chkT S t e = true → TgOk K S.M t (tgR K t)
  | .nm i, e, h => by
    cases e with
    | Name x p =>
      simp only [chkT, Bool.and_eq_true, Bool.not_eq_true'] at h
      intro v σ H Ps env env' d Q r rv hp q
      cases hp
      refine q _ ⟨by simp, fun j hj => ?_⟩ (r.set h.2 rv)
      rw [List.getElem?_set_ne (fun z => hj (by simp [Tg.slots, z]))]
    | _ => simp [chkT] at h
  | .tu ts, e, h => by
    cases e with
    | Tuple es kk p =>
      have h' : chkTs S ts es = true := by simpa [chkT] using h
      intro v σ H Ps env env' d Q r rv hput q
      cases d with
      | tuple ds =>
        cases rv with
        | tup hs ra z =>
          refine ⟨_, _, rfl, seqT (hide_le _ _) hs, ?_, tgs_ok h' _ σ H Ps env env' ds Q r ra hput q⟩
          rw [ra.length, tgs_len h' hput, tgN_len h']
      | _ => cases hput
    | _ => simp [chkT] at h
theorem tgs_len : ∀ {ts : Tgs} {es : List Expr} {ds : List D} {env env' : En}, chkTs S ts es = true → ts.put ds env = .ok env' → ds.length = es.length
  | .nil, [], [], _, _, _, _ => rfl
  | .nil, [], _ :: _, _, _, _, hp => by simp [Tgs.put] at hp
  | .nil, _ :: _, _, _, _, h, _ => by simp [chkTs] at h
  | .cons _ _, [], _, _, _, h, _ => by simp [chkTs] at h
  | .cons _ _, _ :: _, [], _, _, _, hp => by simp [Tgs.put] at hp
  | .cons t ts, e :: es, d :: ds, env, env', h, hp => by
    simp only [chkTs, Bool.and_eq_true] at h
    simp only [Tgs.put] at hp
    cases q : t.put d env with
    | ok e1 =>
      rw [q] at hp
      rw [List.length_cons, List.length_cons, tgs_len h.2 hp]
    | exc _ _ => rw [q] at hp; cases hp
    | bad => rw [q] at hp; cases hp
theorem tgs_ok : ∀ {ts : Tgs} {es : List Expr}, chkTs S ts es = true → TgsOk K S.M ts (tgsR K ts)
  | .nil, [], _ => fun vs σ H Ps env env' ds Q r rv hp q => by
      cases ds with
      | nil =>
        cases hp
        cases rv
        exact ⟨rfl, q _ (Out.refl _) r⟩
      | cons _ _ => simp [Tgs.put] at hp
  | .nil, _ :: _, h => by simp [chkTs] at h
  | .cons _ _, [], h => by simp [chkTs] at h
  | .cons t ts, e :: es, h => by
    simp only [chkTs, Bool.and_eq_true] at h
    intro vs σ H Ps env env' ds Q r rv hp q
    cases rv with
    | nil => simp [Tgs.put] at hp
    | cons h1 h2 =>
      rename_i v vs d ds
      simp only [Tgs.put] at hp
      cases qq : t.put d env with
      | ok e1 =>
        rw [qq] at hp
        refine ⟨v, vs, rfl, tg_ok h.1.2 v σ H Ps env e1 d _ r h1 qq fun σ1 u1 r1 => ?_⟩
        exact tgs_ok h.2 vs σ1 H Ps e1 env' ds Q r1 h2 hp fun σ2 u2 r2 => q σ2 ((u2.mono fun i hi => by simp [Tgs.slots, hi]).trans (u1.mono fun i hi => by simp [Tgs.slots, hi])) r2
      | exc _ _ => rw [qq] at hp; cases hp
      | bad => rw [qq] at hp; cases hp
end
end

/-! ### what is walked -/
structure IterOk (K : PySem.W.Frag) (J : It) (H1 : Hp) (Ps : List Addr) (ds : List D) : Prop where
  fit : ds.length ≤ sizeLine
  ex : ∃ G Y, Walk J ds.length G Y ∧ (∀ Ps' H', Same (hide H1 Ps) (hide H' Ps') → G H') ∧
    ∀ i Ps' Hi x H', i < ds.length → Same (hide H1 Ps) (hide Hi Ps') → (∀ q ∈ Ps', Hi q ≠ none) → Y i Hi x H' → Same Hi H' ∧ ∃ d, ds[i]? = some d ∧ Rp K (hide H' Ps') x d
def EvI (K : PySem.W.Frag) (wi : TI) (σ : St) (H : Hp) (Ps : List Addr) (ds : List D) : Prop :=
  ∀ H0, Same H H0 → ∀ R : It → Hp → Prop, (∀ J H1, Same H0 H1 → IterOk K J H1 Ps ds → R J H1) → wi σ H0 R
section
variable {K : PySem.W.Frag} {H : Hp} {Ps : List Addr} {ds : List D}
theorem iter_list {a : Addr} {xs : List V} (h : hide H Ps a = some (.lst xs)) (r : RpAll K (hide H Ps) xs ds) (z : ds.length ≤ sizeLine) : IterOk K (Itl K a) H Ps ds := by
  refine ⟨z, fun H => SqL K H a xs, YAt xs, by rw [← r.length]; exact walk_list, fun Ps' H' s => SqL.of (hide_le _ _ _ _ (s _ _ h)), fun i Ps' Hi x H' hi s dom y => ?_⟩
  obtain ⟨rfl, hx⟩ := y
  obtain ⟨d, h1, h2⟩ := r.get hx
  exact ⟨Same.refl _, d, h1, h2.mono s⟩
theorem iter_tup {a : Addr} {xs : List V} (h : SqT K (hide H Ps) a xs) (r : RpAll K (hide H Ps) xs ds) (z : ds.length ≤ sizeLine) : IterOk K (Itt K a) H Ps ds := by
  refine ⟨z, fun H => SqT K H a xs, YAt xs, by rw [← r.length]; exact walk_tup, fun Ps' H' s => seqT (hide_le _ _) (seqT s h), fun i Ps' Hi x H' hi s dom y => ?_⟩
  obtain ⟨rfl, hx⟩ := y
  obtain ⟨d, h1, h2⟩ := r.get hx
  exact ⟨Same.refl _, d, h1, h2.mono s⟩
theorem iter_str {x : Str} (h : PyData.strOk x = true) (z : x.length ≤ sizeLine) : IterOk K (Its x) H Ps (x.cps.toList.map fun c => .str ⟨#[c]⟩) := by
  have hl : (x.cps.toList.map fun c => (PyData.str ⟨#[c]⟩ : D)).length = x.cps.size := by simp
  refine ⟨by rw [hl]; exact z, fun _ => True, _, by rw [hl]; exact walk_str, fun _ _ _ => trivial, fun i Ps' Hi v H' hi s dom y => ?_⟩
  obtain ⟨rfl, c, hc, rfl⟩ := y
  have hc' : x.cps.toList[i]? = some c := by simpa using hc
  exact ⟨Same.refl _, _, by rw [List.getElem?_map, hc']; rfl, Rp.sing h (List.mem_of_getElem? hc')⟩
theorem rangeD_get : ∀ (n : Nat) (lo : Int) (i : Nat), i < n → (rangeD lo n)[i]? = some (.int (lo + i))
  | 0, _, _, h => absurd h (Nat.not_lt_zero _)
  | n + 1, lo, 0, _ => by simp [rangeD]
  | n + 1, lo, i + 1, h => by
    have := rangeD_get n (lo + 1) i (by omega)
    simp only [rangeD, List.getElem?_cons_succ, this]
    congr 2
    push_cast
    omega
theorem rangeD_length : ∀ (n : Nat) (lo : Int), (rangeD lo n).length = n
  | 0, _ => rfl
  | n + 1, lo => by simp [rangeD, rangeD_length n]
theorem iter_range {lo : Int} {n : Nat} (z : n ≤ sizeLine) : IterOk K (Itr lo n) H Ps (rangeD lo n) := by
  have hl := rangeD_length n lo
  refine ⟨by rw [hl]; exact z, fun _ => True, _, by rw [hl]; exact walk_range, fun _ _ _ => trivial, fun i Ps' Hi v H' hi s dom y => ?_⟩
  obtain ⟨rfl, rfl⟩ := y
  exact ⟨Same.refl _, _, rangeD_get n lo i (by rw [hl] at hi; exact hi), .int _⟩
end
theorem PI.or {X : Cx} {tg e : Expr} {w w' : TI} (h : PI X tg e w) (h' : PI X tg e w') : PI X tg e (fun σ H R => w σ H R ∨ w' σ H R) :=
  ⟨fun pins s σ H R I hw => hw.elim (h.run pins s σ H R I) (h'.run pins s σ H R I)⟩
section
variable {K : PySem.W.Frag} {σ : St} {H : Hp} {Ps : List Addr} {ta tb : TE} {d : D} {ds : List D}
def iSeq (K : PySem.W.Frag) (t : TE) : TI := fun σ H R => iList K t σ H R ∨ iTup K t σ H R ∨ iStr t σ H R
theorem pi_seq {X : Cx} {tg e : Expr} {t : TE} (h : PE X e t) : PI X tg e (iSeq X.K t) := PI.or (pi_list h) (PI.or (pi_tup h) (pi_str h))
theorem evSeq (ha : EvD K ta σ H Ps false d) (hd : itemsOf d = .ok ds) : EvI K (iSeq K ta) σ H Ps ds := fun H0 s0 R q => by
  cases d with
  | list xs =>
    cases hd
    refine .inl (ha H0 s0 _ fun v H1 s1 rv => ?_)
    cases rv.clean with
    | lst h r z => exact ⟨_, rfl, ⟨_, SqL.of (hide_le _ _ _ _ h)⟩, q _ _ s1 (iter_list h r z)⟩
  | tuple xs =>
    cases hd
    refine .inr (.inl (ha H0 s0 _ fun v H1 s1 rv => ?_))
    cases rv.clean with
    | tup h r z => exact ⟨_, rfl, ⟨_, seqT (hide_le _ _) h⟩, q _ _ s1 (iter_tup h r z)⟩
  | str x =>
    cases hd
    refine .inr (.inr (ha H0 s0 _ fun v H1 s1 rv => ?_))
    obtain ⟨rfl, z1, z2⟩ := rv.str
    exact ⟨x, rfl, q _ _ s1 (iter_str z2 z1)⟩
  | _ => cases hd
theorem evRng1 {n : Int} {b : Bool} (ha : EvD K ta σ H Ps b (.int n)) (h1 : -(2 ^ 62) ≤ n) (h2 : n ≤ (sizeLine : Int)) : EvI K (iRng1 (tCons ta tNil)) σ H Ps (rangeD 0 n.toNat) := fun H0 s0 R q =>
  ha H0 s0 _ fun v H1 s1 rv => by
    cases rv.int
    refine ⟨n, rfl, h1, ?_, q _ _ s1 (iter_range (by omega))⟩
    rw [line_eq] at h2
    omega
theorem evRng2 {i j : Int} {b c : Bool} (ha : EvD K ta σ H Ps b (.int i)) (hb : EvD K tb σ H Ps c (.int j)) (h1 : -(2 ^ 62) ≤ i ∧ i < 2 ^ 62 ∧ -(2 ^ 62) ≤ j ∧ j < 2 ^ 62) (h2 : j - i ≤ (sizeLine : Int)) : EvI K (iRng2 (tCons ta (tCons tb tNil))) σ H Ps (rangeD i (j - i).toNat) := fun H0 s0 R q =>
  ha H0 s0 _ fun v H1 s1 rv => hb H1 (s0.trans s1) _ fun w H2 s2 rw => by
    cases rv.int
    cases rw.int
    exact ⟨i, j, rfl, h1, q _ _ (s1.trans s2) (iter_range (by omega))⟩
end
end Tq

/-! Tq, part I: expressions. -/
namespace Tq
open PySem L2 Res

/-! ### small facts -/
theorem hide_upd_in {H : Hp} {p : Addr} {o : HO} {Ps : List Addr} (h : p ∈ Ps) : hide (upd H p o) Ps = hide H Ps := by
  funext a
  by_cases ha : a ∈ Ps
  · rw [hide_in ha, hide_in ha]
  · rw [hide_out ha, hide_out ha, upd_ne (fun z : a = p => ha (by rw [z]; exact h))]
def wipeE (env : En) : List Nat → En
  | [] => env
  | v :: vs => (wipeE env vs).set v none
theorem wipeE_eq (env : En) : ∀ vs, (wipeE env vs).length = env.length
  | [] => rfl
  | v :: vs => by unfold wipeE; rw [List.length_set, wipeE_eq env vs]
theorem wipeE_some {env : En} {i : Nat} {x : D} : ∀ {vs : List Nat}, (wipeE env vs)[i]? = some (some x) → env[i]? = some (some x) ∧ i ∉ vs
  | [], h => ⟨h, by simp⟩
  | v :: vs, h => by
    unfold wipeE at h
    by_cases hi : v = i
    · subst hi
      by_cases hv : v < (wipeE env vs).length
      · rw [List.getElem?_set_self hv] at h; cases h
      · rw [List.getElem?_eq_none (by simpa using hv)] at h; cases h
    · rw [List.getElem?_set_ne hi] at h
      obtain ⟨h1, h2⟩ := wipeE_some h
      exact ⟨h1, by simp only [List.mem_cons, not_or]; exact ⟨fun e => hi e.symm, h2⟩⟩
theorem wipeE_out {env : En} {i : Nat} : ∀ {vs : List Nat}, i ∉ vs → (wipeE env vs)[i]? = env[i]?
  | [], _ => rfl
  | v :: vs, h => by
    unfold wipeE
    simp only [List.mem_cons, not_or] at h
    rw [List.getElem?_set_ne (Ne.symm h.1), wipeE_out h.2]
theorem wipe_get {σ : St} {i : Nat} : ∀ {vs : List Nat}, i ∈ vs → (wipe σ vs)[i]? = if i < σ.length then some none else none
  | [], h => by simp at h
  | v :: vs, h => by
    unfold wipe
    by_cases hi : v = i
    · subst hi
      rw [List.getElem?_set]
      simp [wipe_length]
    · rw [List.getElem?_set_ne hi]
      exact wipe_get ((List.mem_cons.mp h).resolve_left fun z => hi z.symm)
theorem wipe_same {a b : St} {vs : List Nat} (h : Out vs a b) : wipe a vs = wipe b vs := by
  apply List.ext_getElem?
  intro i
  by_cases hi : i ∈ vs
  · rw [wipe_get hi, wipe_get hi, h.1]
  · rw [wipe_out hi, wipe_out hi, h.2 i hi]
theorem wipe_wipe {σ : St} {vs : List Nat} : wipe (wipe σ vs) vs = wipe σ vs := wipe_same ⟨wipe_length σ vs, fun i hi => wipe_out hi⟩
theorem EnvR.wipe {K : PySem.W.Frag} {M : List Nat} {H : Hp} {Ps : List Addr} {σ : St} {env : En} (r : EnvR K M H Ps σ env) (vs : List Nat) : EnvR K M H Ps (L2.wipe σ vs) (wipeE env vs) where
  get := fun i d h => by
    obtain ⟨h1, h2⟩ := wipeE_some h
    rw [wipe_out h2]
    exact r.get i d h1
  inj := fun i j p d e hi hj hij h1 h2 h3 h4 => by
    obtain ⟨a1, a2⟩ := wipeE_some h1
    obtain ⟨b1, b2⟩ := wipeE_some h2
    rw [wipe_out a2] at h3
    rw [wipe_out b2] at h4
    exact r.inj i j p d e hi hj hij a1 b1 h3 h4
  dom := r.dom
  len := by rw [wipe_length, wipeE_eq, r.len]
theorem out_nil {α : Type} {a b : List α} (h : Out [] a b) : a = b := List.ext_getElem? fun i => h.2 i (by simp)
mutual
theorem put_out : ∀ {t : Tg} {d : D} {R : List Nat} {a b a' : En}, Out (t.slots ++ R) a b → t.put d a = .ok a' → ∃ b', t.put d b = .ok b' ∧ Out R a' b'
  | .nm i, d, R, a, b, a', h, e => by
    cases e
    refine ⟨_, rfl, by simp [h.1], fun j hj => ?_⟩
    by_cases hij : i = j
    · subst hij
      rw [List.getElem?_set, List.getElem?_set]
      simp [h.1]
    · rw [List.getElem?_set_ne hij, List.getElem?_set_ne hij]
      exact h.2 j (by simp [Tg.slots, hj, Ne.symm hij])
  | .tu ts, d, R, a, b, a', h, e => by
    cases d with
    | tuple ds => exact puts_out (t := ts) (ds := ds) h e
    | _ => cases e
theorem puts_out : ∀ {t : Tgs} {ds : List D} {R : List Nat} {a b a' : En}, Out (t.slots ++ R) a b → t.put ds a = .ok a' → ∃ b', t.put ds b = .ok b' ∧ Out R a' b'
  | .nil, [], R, a, b, a', h, e => by cases e; exact ⟨b, rfl, by simpa [Tgs.slots] using h⟩
  | .nil, _ :: _, _, _, _, _, _, e => by simp [Tgs.put] at e
  | .cons _ _, [], _, _, _, _, _, e => by simp [Tgs.put] at e
  | .cons t ts, d :: ds, R, a, b, a', h, e => by
    simp only [Tgs.put] at e
    cases q : t.put d a with
    | ok a1 =>
      rw [q] at e
      obtain ⟨b1, e1, o1⟩ := put_out (t := t) (d := d) (R := ts.slots ++ R) (by simpa [Tgs.slots] using h) q
      obtain ⟨b2, e2, o2⟩ := puts_out (t := ts) (ds := ds) o1 e
      exact ⟨b2, by simp [Tgs.put, e1, e2], o2⟩
    | exc _ _ => rw [q] at e; cases e
    | bad => rw [q] at e; cases e
end
theorem put_wipe {t : Tg} {d : D} {a a' : En} (e : t.put d a = .ok a') : t.put d (wipeE a t.slots) = .ok a' := by
  obtain ⟨b', e1, o⟩ := put_out (R := []) (b := wipeE a t.slots) ⟨(wipeE_eq a _).symm, fun i hi => (wipeE_out (by simpa using hi)).symm⟩ e
  rw [e1, out_nil o]
theorem eachD_get {f : D → Res (Option D)} : ∀ {ds : List D} {r : List D} {i : Nat} {d : D}, eachD f ds = .ok r → ds[i]? = some d → ∃ o, f d = .ok o
  | [], _, _, _, _, e => by simp at e
  | x :: xs, r, i, d, h, e => by
    simp only [eachD] at h
    cases q : f x with
    | ok o =>
      rw [q] at h
      simp only [bind_ok] at h
      cases q2 : eachD f xs with
      | ok r2 =>
        cases i with
        | zero => simp at e; subst e; exact ⟨o, q⟩
        | succ i => exact eachD_get (i := i) q2 (by simpa using e)
      | exc _ _ => rw [q2] at h; cases h
      | bad => rw [q2] at h; cases h
    | exc _ _ => rw [q] at h; cases h
    | bad => rw [q] at h; cases h
theorem eachD_snoc {f : D → Res (Option D)} {d : D} {o : Option D} (hd : f d = .ok o) : ∀ {xs : List D} {r : List D}, eachD f xs = .ok r → eachD f (xs ++ [d]) = .ok (r ++ o.toList)
  | [], r, h => by
    cases h
    simp only [List.nil_append, eachD, hd, bind_ok]
    cases o <;> rfl
  | x :: xs, r, h => by
    simp only [eachD] at h
    cases q : f x with
    | ok p =>
      rw [q] at h
      simp only [bind_ok] at h
      cases q2 : eachD f xs with
      | ok r2 =>
        rw [q2] at h
        cases h
        simp only [List.cons_append, eachD, q, bind_ok, eachD_snoc hd q2]
        cases p <;> rfl
      | exc _ _ => rw [q2] at h; cases h
      | bad => rw [q2] at h; cases h
    | exc _ _ => rw [q] at h; cases h
    | bad => rw [q] at h; cases h
theorem starsAny {S : Sx} {env : Env} {pos : Pos} : ∀ {as : IEs} {es : List Expr}, chkEs S as es = true → (backTo pos (starEach es env)).any (·.1) = false
  | .nil, [], _ => rfl
  | .nil, _ :: _, h => by simp [chkEs] at h
  | .cons _ _, [], h => by simp [chkEs] at h
  | .cons a as, e :: es, h => by
    simp only [chkEs, Bool.and_eq_true] at h
    rw [star1 h.1.1.1]
    show (false || (backTo pos (starEach es env)).any (·.1)) = false
    rw [starsAny h.2]; rfl
theorem evalEs_len {ρ : Nat → List D → Res D} {S : Sx} {env : En} : ∀ {as : IEs} {es : List Expr} {ds : List D}, chkEs S as es = true → evalEs ρ as env = .ok ds → ds.length = es.length
  | .nil, [], _, _, e => by simp only [evalEs] at e; cases e; rfl
  | .nil, _ :: _, _, h, _ => by simp [chkEs] at h
  | .cons _ _, [], _, h, _ => by simp [chkEs] at h
  | .cons a as, e :: es, ds, h, he => by
    simp only [chkEs, Bool.and_eq_true] at h
    simp only [evalEs] at he
    cases q : evalE ρ a env with
    | ok d =>
      rw [q] at he
      simp only [bind_ok] at he
      cases q2 : evalEs ρ as env with
      | ok r => rw [q2] at he; cases he; rw [List.length_cons, List.length_cons, evalEs_len h.2 q2]
      | exc _ _ => rw [q2] at he; cases he
      | bad => rw [q2] at he; cases he
    | exc _ _ => rw [q] at he; cases he
    | bad => rw [q] at he; cases he
/-- a comparison's answer is a truth -/
theorem inB_bool {neg : Bool} {d e z : D} : ((inB d e).bind fun t => Res.ok (PyData.bool (if neg then !t else t))) = .ok z → ∃ t, z = .bool t := fun h => by
  cases q : inB d e with
  | ok t => rw [q] at h; cases h; exact ⟨_, rfl⟩
  | exc _ _ => rw [q] at h; cases h
  | bad => rw [q] at h; cases h
theorem cmp_bool : ∀ {op : Op2} {c : CmpOp} {d e z : D}, cmpOf op = some c → op2 op d e = .ok z → ∃ t, z = .bool t
  | .eq, _, d, e, z, _, h => by
    have h : (if eqOk d e then Res.ok (PyData.bool (PyData.eqv d e)) else .bad) = .ok z := h
    split at h <;> cases h; exact ⟨_, rfl⟩
  | .ne, _, d, e, z, _, h => by
    have h : (if eqOk d e then Res.ok (PyData.bool (!PyData.eqv d e)) else .bad) = .ok z := h
    split at h <;> cases h; exact ⟨_, rfl⟩
  | .lt, _, d, e, z, _, h => by cases d <;> cases e <;> first | (cases h; done) | (cases h; exact ⟨_, rfl⟩)
  | .le, _, d, e, z, _, h => by cases d <;> cases e <;> first | (cases h; done) | (cases h; exact ⟨_, rfl⟩)
  | .gt, _, d, e, z, _, h => by cases d <;> cases e <;> first | (cases h; done) | (cases h; exact ⟨_, rfl⟩)
  | .ge, _, d, e, z, _, h => by cases d <;> cases e <;> first | (cases h; done) | (cases h; exact ⟨_, rfl⟩)
  | .is, _, d, e, z, _, h => by cases e <;> first | (cases h; done) | (cases h; exact ⟨_, rfl⟩)
  | .isnot, _, d, e, z, _, h => by cases e <;> first | (cases h; done) | (cases h; exact ⟨_, rfl⟩)
  | .in_, _, d, e, z, _, h => inB_bool (neg := false) h
  | .notin, _, d, e, z, _, h => inB_bool (neg := true) h
  | .add, _, _, _, _, h, _ | .sub, _, _, _, _, h, _ | .mul, _, _, _, _, h, _ | .mod, _, _, _, _, h, _ | .fdiv, _, _, _, _, h, _ | .pow, _, _, _, _, h, _ | .idx, _, _, _, _, h, _ | .fm, _, _, _, _, h, _ | .to, _, _, _, _, h, _ | .min2, _, _, _, _, h, _ | .max2, _, _, _, _, h, _ | .index, _, _, _, _, h, _ | .join, _, _, _, _, h, _ | .count, _, _, _, _, h, _ => by cases h
theorem bind_split {α β : Type} {r : Res α} {f : α → Res β} {b : β} (h : r.bind f = .ok b) : ∃ a, r = .ok a ∧ f a = .ok b := by
  cases r with
  | ok a => exact ⟨a, rfl, h⟩
  | exc _ _ => cases h
  | bad => cases h
theorem tame_split {α : Type} {r : Res α} {a : α} (h : r.tame = .ok a) : r = .ok a := by
  cases r with
  | ok b => exact h
  | exc _ _ => cases h
  | bad => cases h
theorem andE_ok {op : BoolOp} {e x y : Expr} (h : andE op e = some (x, y)) : ∃ b rest p, e = .BoolOp op (x :: b :: rest) p ∧ y = (match rest with | [] => b | c :: r => .BoolOp op (b :: c :: r) p) := by
  unfold andE at h
  split at h
  · split at h
    · rename_i hc
      have hc := eq_of_beq hc
      subst hc
      cases h
      exact ⟨_, _, _, rfl, rfl⟩
    · cases h
  · cases h
theorem pe_rest {X : Cx} {op : BoolOp} {b : Expr} {rest : List Expr} {p : Pos} {t : TE} (h : PE X (match rest with | [] => b | c :: r => .BoolOp op (b :: c :: r) p) t) : PE X (.BoolOp op (b :: rest) p) t := by
  cases rest with
  | nil => exact pe_one h
  | cons c r => exact h
theorem pw_rest {X : Cx} {op : BoolOp} {b : Expr} {rest : List Expr} {p : Pos} {t : TT} (h : PT X (match rest with | [] => b | c :: r => .BoolOp op (b :: c :: r) p) t) : PW X (.BoolOp op (b :: rest) p) t := by
  cases rest with
  | nil =>
    cases op with
    | And => exact pw_and1 h
    | Or => exact pw_or1 h
  | cons c r => exact ⟨fun whole pins s σ H Q I q => h.run pins s σ H Q I q⟩

/-! ### a comprehension -/
section
variable {K : PySem.W.Frag} {M : List Nat}
theorem evComp {t : Tg} {wi : TI} {tt : TT} {te : TE} {σ : St} {H : Hp} {env : En} {Ps : List Addr} {ds r : List D} {f : D → Res (Option D)} {vs : List Nat} (hvs : vs = t.slots)
    (re : EnvR K M H Ps σ env) (hi : EvI K wi σ H Ps ds) (ht : TgOk K M t (tgR K t)) (hr : eachD f ds = .ok r)
    (hf : ∀ d o, f d = .ok o → ∃ env', t.put d env = .ok env' ∧ ∀ σ' H' Ps', EnvR K M H' Ps' σ' env' → ∃ b, EvB tt σ' H' b ∧ (b = true → ∃ y, o = some y ∧ EvD K te σ' H' Ps' false y) ∧ (b = false → o = none)) :
    EvD K (tLc wi (tgR K t) tt te vs) σ H Ps false (.list r) := by
  subst hvs
  intro H0 s0 Q q
  refine hi H0 s0 _ fun J H1 s1 it D hD => ?_
  obtain ⟨z, G, Y, w, stab, yl⟩ := it
  have re1 : EnvR K M H1 Ps σ env := re.same (s0.trans s1)
  have dom1 := re1.dom
  have nD : D ∉ Ps := not_hid dom1 hD
  -- what is kept
  have kp : ∀ Hi : Hp, Same H1 Hi → (∃ o, Hi D = some o) → Keep Ps H1 (D :: Ps) Hi := fun Hi s ⟨o, ho⟩ => {
    view := fun a u h => by
      obtain ⟨h1, h2⟩ := hide_some h
      have ne : a ≠ D := ne_of_none h2 hD
      rw [hide_out (by simp [ne, h1])]
      exact s _ _ h2
    priv := fun p hp => ⟨List.mem_cons_of_mem _ hp, ((Keep.same dom1 s).priv p hp).2⟩
    dom := fun a ha e => by
      rcases List.mem_cons.mp ha with rfl | ha
      · rw [ho] at e; cases e
      · exact dom1 a ha (s.free e) }
  refine lc_it w (fun i Hi => Same H1 Hi ∧ ∃ acc ri, Hi D = some (.lst acc) ∧ eachD f (ds.take i) = .ok ri ∧ RpAll K (hide Hi (D :: Ps)) acc ri ∧ acc.length ≤ i) ?_ ?_ ?_ ?_
  · exact ⟨same_upd hD, [], [], upd_same, rfl, .nil, Nat.le_refl _⟩
  · rintro i Hi hle ⟨s, acc, ri, ha, _⟩
    exact stab (D :: Ps) Hi (kp Hi s ⟨_, ha⟩).view
  · rintro i x Hi H' hlt ⟨s, acc, ri, ha, he, ra, hl⟩ y
    have k := kp Hi s ⟨_, ha⟩
    obtain ⟨s2, d, hd, rx⟩ := yl i (D :: Ps) Hi x H' hlt k.view k.dom y
    obtain ⟨o, ho⟩ := eachD_get hr hd
    obtain ⟨env', hput, rest⟩ := hf d o ho
    have k' := kp H' (s.trans s2) ⟨_, s2 _ _ ha⟩
    have rw' : EnvR K M H' (D :: Ps) (wipe σ t.slots) (wipeE env t.slots) := (re1.keep k').wipe _
    refine ht x (wipe σ t.slots) H' (D :: Ps) _ env' d _ rw' rx (put_wipe hput) fun σ2 ou r2 => ⟨by rw [wipe_same ou, wipe_wipe], ?_⟩
    obtain ⟨b, hb, h1, h2⟩ := rest σ2 H' (D :: Ps) r2
    have htake : ds.take (i + 1) = ds.take i ++ [d] := by
      rw [List.take_add_one, hd]; rfl
    refine hb H' (Same.refl _) _ fun H3 s3 => ?_
    cases b with
    | true =>
      obtain ⟨yv, rfl, hy⟩ := h1 rfl
      refine iteT (hy H3 s3 _ fun u H4 s4 ru => ?_)
      have hD4 : H4 D = some (.lst acc) := s4 _ _ (s3 _ _ (s2 _ _ ha))
      refine ⟨acc, hD4, by omega, ?_, acc ++ [u], ri ++ [yv], upd_same, ?_, ?_, ?_⟩
      · intro a oo h
        rw [upd_ne (ne_of_none h hD)]
        exact s4 _ _ (s3 _ _ (s2 _ _ (s _ _ h)))
      · rw [htake]; exact eachD_snoc ho he
      · rw [hide_upd_in (by simp)]
        exact (ra.mono (hide_mono (s2.trans (s3.trans s4)) _)).append (.cons ru.clean .nil)
      · rw [List.length_append]; simp; omega
    | false =>
      refine iteF ⟨s.trans (s2.trans s3), acc, ri, s3 _ _ (s2 _ _ ha), ?_, ra.mono (hide_mono (s2.trans s3) _), by omega⟩
      rw [htake]
      have := eachD_snoc (h2 rfl ▸ ho) he
      simpa using this
  · rintro Hn ⟨s, acc, ri, ha, he, ra, hl⟩
    rw [List.take_length, hr] at he
    cases he
    refine q _ _ (s1.trans s) (.of (.lst (by rw [hide_out nD]; exact ha) (ra.mono fun a o h => ?_) ?_))
    · obtain ⟨h1, h2⟩ := hide_some h
      rw [hide_out fun zz => h1 (List.mem_cons_of_mem _ zz)]
      exact h2
    · have := ra.length
      omega
end
end Tq

/-! Tq, part J: every expression that the text holds runs as its image does. -/
namespace Tq
open PySem L2 Res
section
variable (k : Nat) (defs : Nat → Option FDef) (K : PySem.W.Frag)
def OkE (S : Sx) (ie : IE) (e : Expr) : Prop := ∃ t, (∀ X, Gd S k defs K X → PE X e t) ∧ ∀ σ H env Ps d, EnvR K S.M H Ps σ env → evalE (callF defs k) ie env = .ok d → EvD K t σ H Ps (lv S.M ie) d
def OkB (S : Sx) (ie : IE) (e : Expr) : Prop := ∃ t, (∀ X, Gd S k defs K X → PT X e t) ∧ ∀ σ H env Ps b, EnvR K S.M H Ps σ env → (evalE (callF defs k) ie env).bind truth = .ok b → EvB t σ H b
def OkA (S : Sx) (as : IEs) (es : List Expr) : Prop := ∃ t, (∀ X, Gd S k defs K X → PA X es t) ∧ ∀ σ H env Ps ds, EnvR K S.M H Ps σ env → evalEs (callF defs k) as env = .ok ds → EvA K t σ H Ps ds
def OkI (S : Sx) (it : IT) (e : Expr) : Prop := ∃ wi, (∀ X tg, Gd S k defs K X → PI X tg e wi) ∧ ∀ σ H env Ps ds, EnvR K S.M H Ps σ env → evalIT (callF defs k) it env = .ok ds → EvI K wi σ H Ps ds
end
section
variable {k : Nat} {defs : Nat → Option FDef} {K : PySem.W.Frag} {S : Sx}
theorem okB_of {ie : IE} {e : Expr} (h : OkE k defs K S ie e) (p : plainTest e = true) : OkB k defs K S ie e := by
  obtain ⟨t, h1, h2⟩ := h
  refine ⟨fun σ H Q => t σ H fun x H' => ∃ c, TruV K x H' c ∧ Q c H', fun X g => ?_, fun σ H env Ps b r e => ?_⟩
  · have := g.hK
    subst this
    exact pt_truth (h1 X g) fun whole => test_plain p whole
  · obtain ⟨d, e1, e2⟩ := bind_split e
    exact evT r.dom (h2 σ H env Ps d r e1) e2
theorem okE_var {i : Nat} {e : Expr} (h : chkE S (.var i) e = true) : OkE k defs K S (.var i) e := by
  cases e with
  | Name x p =>
    have h : visB S i x = true := by simpa [chkE] using h
    refine ⟨tVar i, fun X g => ?_, fun σ H env Ps d r e => ?_⟩
    · obtain ⟨a, b, c, d⟩ := g.vis h
      exact pe_var a b c d
    · simp only [evalE] at e
      cases q : env[i]? with
      | none => rw [q] at e; cases e
      | some o =>
        rw [q] at e
        cases o with
        | none => cases e
        | some x =>
          cases e
          intro H0 s0 Q qq
          obtain ⟨v, h1, h2, _⟩ := (r.same s0).get i _ q
          exact ⟨v, h1, qq v H0 (Same.refl _) h2⟩
  | _ => simp [chkE] at h
theorem okE_c {ie : IE} {e : Expr} {v : V} {d : D} (hl : lv S.M ie = false) (hp : ∀ X, PE X e (tC v)) (he : ∀ env, evalE (callF defs k) ie env = .ok d) (hr : ∀ H, Rp K H v d) : OkE k defs K S ie e :=
  ⟨tC v, fun X _ => hp X, fun σ H env Ps d' r e => by
    rw [he env] at e; cases e
    exact fun H0 s0 Q q => q v H0 (Same.refl _) (.of (hr _))⟩
theorem okE_o2 {op : Op2} {a b : IE} {e x y : Expr} (ha : OkE k defs K S a x) (hb : OkE k defs K S b y) (h : sh2 S op e = some (x, y)) : OkE k defs K S (.o2 op a b) e := by
  obtain ⟨ta, a1, a2⟩ := ha
  obtain ⟨tb, b1, b2⟩ := hb
  obtain ⟨t, t1, t2⟩ := sem2_ok (k := k) (defs := defs) (K := K) (ta := ta) (tb := tb) h
  refine ⟨t, fun X g => t1 X g (a1 X g) (b1 X g), fun σ H env Ps d r e => ?_⟩
  simp only [evalE] at e
  obtain ⟨u, e1, e⟩ := bind_split e
  obtain ⟨w, e2, e⟩ := bind_split e
  exact t2 σ H Ps _ _ u w d r.dom (a2 σ H env Ps u r e1) (b2 σ H env Ps w r e2) e
theorem okE_o1 {op : Op1} {a : IE} {e x : Expr} (ha : OkE k defs K S a x) (h : sh1 S op e = some x) : OkE k defs K S (.o1 op a) e := by
  obtain ⟨ta, a1, a2⟩ := ha
  obtain ⟨t, t1, t2⟩ := sem1_ok (k := k) (defs := defs) (K := K) (ta := ta) h
  refine ⟨t, fun X g => t1 X g (a1 X g), fun σ H env Ps d r e => ?_⟩
  simp only [evalE] at e
  obtain ⟨u, e1, e⟩ := bind_split e
  exact t2 σ H Ps _ u d r.dom (a2 σ H env Ps u r e1) e
theorem okE_isi {ty : Ty} {a : IE} {e x : Expr} (ha : OkE k defs K S a x) (h : isiE S ty e = some x) : OkE k defs K S (.isi a ty) e := by
  obtain ⟨ta, a1, a2⟩ := ha
  obtain ⟨t, t1, t2⟩ := Sem1.isi (k := k) (defs := defs) (K := K) (ta := ta) h
  refine ⟨t, fun X g => t1 X g (a1 X g), fun σ H env Ps d r e => ?_⟩
  simp only [evalE] at e
  obtain ⟨u, e1, e⟩ := bind_split e
  exact t2 σ H Ps _ u d r.dom (a2 σ H env Ps u r e1) e
theorem okB_cmp {op : Op2} {a b : IE} {e x y : Expr} (ha : OkE k defs K S a x) (hb : OkE k defs K S b y) (h : cmpE op e = some (x, y)) : OkB k defs K S (.o2 op a b) e := by
  obtain ⟨ta, a1, a2⟩ := ha
  obtain ⟨tb, b1, b2⟩ := hb
  obtain ⟨c, p, rfl, h1, h2⟩ := cmpE_ok h
  obtain ⟨r, ho, hr⟩ := cmp_ok (S := S) (k := k) (defs := defs) (K := K) h1
  refine ⟨tTest (tOp r ta tb), fun X g => pt_cmpR (ho X g) (a1 X g) (b1 X g) (mark_plain h2), fun σ H env Ps bb re e => ?_⟩
  obtain ⟨z, e, et⟩ := bind_split e
  simp only [evalE] at e
  obtain ⟨u, e1, e⟩ := bind_split e
  obtain ⟨w, e2, e⟩ := bind_split e
  obtain ⟨t, rfl⟩ := cmp_bool h1 e
  cases et
  exact evTest (ev2 re.dom hr (a2 σ H env Ps u re e1) (b2 σ H env Ps w re e2) e)
theorem evChain {r r' : R2} {ta tb tc : TE} {op op' : Op2} {σ : St} {H : Hp} {Ps : List Addr} {b b' b'' : Bool} {d e f x : D} {t : Bool} (dom : ∀ q ∈ Ps, H q ≠ none) (hr : R2ok K (op2 op) r) (hr' : R2ok K (op2 op') r')
    (ha : EvD K ta σ H Ps b d) (hb : EvD K tb σ H Ps b' e) (h1 : op2 op d e = .ok (.bool t)) (hc : t = true → EvD K tc σ H Ps b'' f ∧ op2 op' e f = .ok x) (hn : t = false → x = .bool false) : EvD K (tChain r r' ta tb tc) σ H Ps false x := fun H0 s0 Q q =>
  ha H0 s0 _ fun v H1 s1 rv => hb H1 (s0.trans s1) _ fun w H2 s2 rw => hr v w H2 Ps d e _ b b' _ (dom_same dom ((s0.trans s1).trans s2)) (rv.same (dom_same dom (s0.trans s1)) s2) rw h1 fun u H3 s3 ru => by
    cases ru
    refine ⟨t, rfl, ?_⟩
    cases t with
    | true =>
      obtain ⟨c1, c2⟩ := hc rfl
      refine iteT (c1 H3 (((s0.trans s1).trans s2).trans s3) _ fun w' H4 s4 rw' => ?_)
      have d2 := dom_same dom ((s0.trans s1).trans s2)
      exact hr' w w' H4 Ps e f x b' b'' Q (dom_same d2 (s3.trans s4)) (rw.same d2 (s3.trans s4)) rw' c2 fun u H5 s5 ru => q u H5 ((((s1.trans s2).trans s3).trans s4).trans s5) (.of ru)
    | false =>
      refine iteF (q _ H3 ((s1.trans s2).trans s3) ?_)
      rw [hn rfl]
      exact .of (.bl _)
theorem lastMarks_of {o p : CmpOp} {y z : Expr} (h : noSet z = true) : lastMarks [o, p] [y, z] = false := mark_plain h
theorem chain_eval {ρ : Nat → List D → Res D} {o p : Op2} {a b c : IE} {env : En} {z : D} {o' : CmpOp} (ho : cmpOf o = some o') (e : evalE ρ (.chain o p a b c) env = .ok z) : ∃ u w t, evalE ρ a env = .ok u ∧ evalE ρ b env = .ok w ∧ op2 o u w = .ok (.bool t) ∧ (t = true → ∃ f, evalE ρ c env = .ok f ∧ op2 p w f = .ok z) ∧ (t = false → z = .bool false) := by
  simp only [evalE] at e
  obtain ⟨u, e1, e⟩ := bind_split e
  obtain ⟨w, e2, e⟩ := bind_split e
  obtain ⟨q, e3, e⟩ := bind_split e
  obtain ⟨t, rfl⟩ := cmp_bool ho e3
  refine ⟨u, w, t, e1, e2, e3, fun ht => ?_, fun ht => ?_⟩
  · subst ht
    obtain ⟨f, e4, e5⟩ := bind_split e
    exact ⟨f, e4, e5⟩
  · subst ht
    cases e; rfl
theorem okE_chain {o p : Op2} {a b c : IE} {x y z : Expr} {o' p' : CmpOp} {pos : Pos} (ha : OkE k defs K S a x) (hb : OkE k defs K S b y) (hc : OkE k defs K S c z) (h1 : cmpOf o = some o') (h2 : cmpOf p = some p') (hz : noSet z = true) :
    OkE k defs K S (.chain o p a b c) (.Compare x [o', p'] [y, z] pos) ∧ OkB k defs K S (.chain o p a b c) (.Compare x [o', p'] [y, z] pos) := by
  obtain ⟨ta, a1, a2⟩ := ha
  obtain ⟨tb, b1, b2⟩ := hb
  obtain ⟨tc, c1, c2⟩ := hc
  obtain ⟨r, ho, hr⟩ := cmp_ok (S := S) (k := k) (defs := defs) (K := K) h1
  obtain ⟨r', ho', hr'⟩ := cmp_ok (S := S) (k := k) (defs := defs) (K := K) h2
  have ev : ∀ σ H env Ps d, EnvR K S.M H Ps σ env → evalE (callF defs k) (.chain o p a b c) env = .ok d → EvD K (tChain r r' ta tb tc) σ H Ps false d := fun σ H env Ps d re e => by
    obtain ⟨u, w, t, e1, e2, e3, e4, e5⟩ := chain_eval h1 e
    cases t with
    | true =>
      obtain ⟨f, f1, f2⟩ := e4 rfl
      exact evChain re.dom hr hr' (a2 σ H env Ps u re e1) (b2 σ H env Ps w re e2) e3 (fun _ => ⟨c2 σ H env Ps f re f1, f2⟩) (fun h => nomatch h)
    | false => exact evChain (f := .none) (b'' := false) re.dom hr hr' (a2 σ H env Ps u re e1) (b2 σ H env Ps w re e2) e3 (fun h => nomatch h) (fun _ => e5 rfl)
  refine ⟨⟨tChain r r' ta tb tc, fun X g => pe_chain (ho X g) (ho' X g) (a1 X g) (b1 X g) (c1 X g) (lastMarks_of hz), ev⟩, ⟨tTest (tChain r r' ta tb tc), fun X g => pt_chain (ho X g) (ho' X g) (a1 X g) (b1 X g) (c1 X g) (lastMarks_of hz), fun σ H env Ps bb re e => ?_⟩⟩
  obtain ⟨zz, e, et⟩ := bind_split e
  have := ev σ H env Ps zz re e
  obtain ⟨u, w, t, e1, e2, e3, e4, e5⟩ := chain_eval h1 e
  have hb : ∃ t, zz = .bool t := by
    cases t with
    | true => obtain ⟨f, f1, f2⟩ := e4 rfl; exact cmp_bool h2 f2
    | false => exact ⟨_, e5 rfl⟩
  obtain ⟨t', rfl⟩ := hb
  cases et
  exact evTest this
theorem okE_call {f : Nat} {es : IEs} {x : Expr} {xs : List Expr} {n : Str} {p q : Pos} {ar : Nat} (hA : OkA k defs K S es (x :: xs)) (hf : S.fnm f = some (n, ar)) (hlen : (x :: xs).length = ar) (hd : (n == ("__debug__" : Str)) = false) (hg : glB S n = true) (hc : chkEs S es (x :: xs) = true) :
    OkE k defs K S (.call f es) (.Call (.Name n p) (x :: xs) [] q) := by
  obtain ⟨t, t1, t2⟩ := hA
  refine ⟨tCallS (spF K ar (callF defs k f)) (WE (fun _ _ _ _ => False)) t, fun X g => ?_, fun σ H env Ps d r e => ?_⟩
  · obtain ⟨a, fd, ps, m1, m2, m3, F⟩ := g.fns f n ar hf
    have := g.hK
    subst this
    cases es with
    | nil => simp [chkEs] at hc
    | cons a as =>
      have hc' := hc
      simp only [chkEs, Bool.and_eq_true] at hc'
      exact pe_callS F g.room (g.gl hg) m1 m2 m3 (fun σ => passAt takes0 σ) (t1 X g) hd (star1 hc'.1.1.1) (starsAny hc'.2)
  · simp only [evalE] at e
    obtain ⟨ds, e1, e⟩ := bind_split e
    intro H0 s0 Q qq
    refine t2 σ H env Ps ds r e1 H0 s0 _ fun vs H1 s1 rv => ⟨?_, ds, Ps, d, rv, dom_same r.dom (s0.trans s1), e, fun v H2 s2 rv2 => qq v H2 (s1.trans s2) (.of rv2)⟩
    rw [rv.length, evalEs_len hc e1, hlen]
theorem okE_and {a b : IE} {e x y : Expr} (ha : OkE k defs K S a x) (hb : OkE k defs K S b y) (h : andE .And e = some (x, y)) (la : lv S.M a = false) (lb : lv S.M b = false) : OkE k defs K S (.and_ a b) e := by
  obtain ⟨ta, a1, a2⟩ := ha
  obtain ⟨tb, b1, b2⟩ := hb
  obtain ⟨c, rest, p, rfl, rfl⟩ := andE_ok h
  refine ⟨tAndT K ta tb, fun X g => ?_, fun σ H env Ps d r e => ?_⟩
  · have := g.hK
    subst this
    exact pe_andT (a1 X g) (pe_rest (b1 X g))
  · simp only [evalE] at e
    obtain ⟨u, e1, e⟩ := bind_split e
    obtain ⟨t, e2, e⟩ := bind_split e
    intro H0 s0 Q qq
    refine a2 σ H env Ps u r e1 H0 s0 _ fun v H1 s1 rv => ⟨t, tru_of rv e2, ?_⟩
    rw [la] at rv
    cases t with
    | true =>
      refine iteT ?_
      have := b2 σ H env Ps d r e
      rw [lb] at this
      exact this H1 (s0.trans s1) Q fun w H2 s2 rw => qq w H2 (s1.trans s2) rw
    | false =>
      cases e
      exact iteF (qq v H1 s1 rv)
theorem okE_or {a b : IE} {e x y : Expr} (ha : OkE k defs K S a x) (hb : OkE k defs K S b y) (h : andE .Or e = some (x, y)) (la : lv S.M a = false) (lb : lv S.M b = false) : OkE k defs K S (.or_ a b) e := by
  obtain ⟨ta, a1, a2⟩ := ha
  obtain ⟨tb, b1, b2⟩ := hb
  obtain ⟨c, rest, p, rfl, rfl⟩ := andE_ok h
  refine ⟨tOrT K ta tb, fun X g => ?_, fun σ H env Ps d r e => ?_⟩
  · have := g.hK
    subst this
    exact pe_orT (a1 X g) (pe_rest (b1 X g))
  · simp only [evalE] at e
    obtain ⟨u, e1, e⟩ := bind_split e
    obtain ⟨t, e2, e⟩ := bind_split e
    intro H0 s0 Q qq
    refine a2 σ H env Ps u r e1 H0 s0 _ fun v H1 s1 rv => ⟨t, tru_of rv e2, ?_⟩
    rw [la] at rv
    cases t with
    | true =>
      cases e
      exact iteT (qq v H1 s1 rv)
    | false =>
      refine iteF ?_
      have := b2 σ H env Ps d r e
      rw [lb] at this
      exact this H1 (s0.trans s1) Q fun w H2 s2 rw => qq w H2 (s1.trans s2) rw
theorem okB_and {a b : IE} {e x y : Expr} (ha : OkB k defs K S a x) (hb : OkB k defs K S b y) (h : andE .And e = some (x, y)) : OkB k defs K S (.and_ a b) e := by
  obtain ⟨ta, a1, a2⟩ := ha
  obtain ⟨tb, b1, b2⟩ := hb
  obtain ⟨c, rest, p, rfl, rfl⟩ := andE_ok h
  refine ⟨tAnd ta tb, fun X g => (pw_and (a1 X g) (pw_rest (b1 X g))).pt, fun σ H env Ps bb r e => ?_⟩
  obtain ⟨z, e, et⟩ := bind_split e
  simp only [evalE] at e
  obtain ⟨u, e1, e⟩ := bind_split e
  obtain ⟨t, e2, e⟩ := bind_split e
  intro H0 s0 Q qq
  refine a2 σ H env Ps t r (by rw [e1]; exact e2) H0 s0 _ fun H1 s1 => ?_
  cases t with
  | true =>
    refine iteT (b2 σ H env Ps bb r ?_ H1 (s0.trans s1) Q fun H2 s2 => qq H2 (s1.trans s2))
    have e : evalE (callF defs k) b env = .ok z := e
    rw [e]; exact et
  | false =>
    cases e
    rw [e2] at et
    cases et
    exact iteF (qq H1 s1)
theorem okB_or {a b : IE} {e x y : Expr} (ha : OkB k defs K S a x) (hb : OkB k defs K S b y) (h : andE .Or e = some (x, y)) : OkB k defs K S (.or_ a b) e := by
  obtain ⟨ta, a1, a2⟩ := ha
  obtain ⟨tb, b1, b2⟩ := hb
  obtain ⟨c, rest, p, rfl, rfl⟩ := andE_ok h
  refine ⟨tOr ta tb, fun X g => (pw_or (a1 X g) (pw_rest (b1 X g))).pt, fun σ H env Ps bb r e => ?_⟩
  obtain ⟨z, e, et⟩ := bind_split e
  simp only [evalE] at e
  obtain ⟨u, e1, e⟩ := bind_split e
  obtain ⟨t, e2, e⟩ := bind_split e
  intro H0 s0 Q qq
  refine a2 σ H env Ps t r (by rw [e1]; exact e2) H0 s0 _ fun H1 s1 => ?_
  cases t with
  | true =>
    cases e
    rw [e2] at et
    cases et
    exact iteT (qq H1 s1)
  | false =>
    refine iteF (b2 σ H env Ps bb r ?_ H1 (s0.trans s1) Q fun H2 s2 => qq H2 (s1.trans s2))
    have e : evalE (callF defs k) b env = .ok z := e
    rw [e]; exact et
theorem okB_not {a : IE} {x : Expr} {p : Pos} (ha : OkB k defs K S a x) : OkB k defs K S (.o1 .not a) (.UnaryOp .Not x p) := by
  obtain ⟨ta, a1, a2⟩ := ha
  refine ⟨tNot ta, fun X g => pt_not (a1 X g), fun σ H env Ps bb r e => ?_⟩
  obtain ⟨z, e, et⟩ := bind_split e
  simp only [evalE] at e
  obtain ⟨u, e1, e⟩ := bind_split e
  obtain ⟨t, e2, e⟩ := bind_split (show (truth u).bind (fun b => Res.ok (PyData.bool (!b))) = .ok z from e)
  cases e
  cases et
  intro H0 s0 Q qq
  exact a2 σ H env Ps t r (by rw [e1]; exact e2) H0 s0 _ fun H1 s1 => qq H1 s1
theorem okE_if {c a b : IE} {x y z : Expr} {p : Pos} (hc : OkB k defs K S c x) (ha : OkE k defs K S a y) (hb : OkE k defs K S b z) (la : lv S.M a = false) (lb : lv S.M b = false) : OkE k defs K S (.ifE c a b) (.IfExp x y z p) := by
  obtain ⟨tc, c1, c2⟩ := hc
  obtain ⟨ta, a1, a2⟩ := ha
  obtain ⟨tb, b1, b2⟩ := hb
  refine ⟨tIf tc ta tb, fun X g => pe_ifExp (c1 X g) (a1 X g) (b1 X g), fun σ H env Ps d r e => ?_⟩
  simp only [evalE] at e
  obtain ⟨u, e1, e⟩ := bind_split e
  obtain ⟨t, e2, e⟩ := bind_split e
  intro H0 s0 Q qq
  refine c2 σ H env Ps t r (by rw [e1]; exact e2) H0 s0 _ fun H1 s1 => ?_
  cases t with
  | true =>
    refine iteT ?_
    have := a2 σ H env Ps d r e
    rw [la] at this
    exact this H1 (s0.trans s1) Q fun w H2 s2 rw => qq w H2 (s1.trans s2) rw
  | false =>
    refine iteF ?_
    have := b2 σ H env Ps d r e
    rw [lb] at this
    exact this H1 (s0.trans s1) Q fun w H2 s2 rw => qq w H2 (s1.trans s2) rw
theorem okA_nil : OkA k defs K S .nil [] := ⟨tNil, fun X _ => pa_nil, fun σ H env Ps ds r e H0 s0 Q q => by
  simp only [evalEs] at e; cases e
  exact q [] H0 (Same.refl _) .nil⟩
theorem okA_cons {a : IE} {as : IEs} {e : Expr} {es : List Expr} (ha : OkE k defs K S a e) (hs : OkA k defs K S as es) (st : noStar e = true) (la : lv S.M a = false) : OkA k defs K S (.cons a as) (e :: es) := by
  obtain ⟨ta, a1, a2⟩ := ha
  obtain ⟨tb, b1, b2⟩ := hs
  refine ⟨tCons ta tb, fun X g => pa_cons (a1 X g) (b1 X g) (star1 st), fun σ H env Ps ds r e H0 s0 Q q => ?_⟩
  simp only [evalEs] at e
  obtain ⟨u, e1, e⟩ := bind_split e
  obtain ⟨us, e2, e⟩ := bind_split e
  cases e
  have := a2 σ H env Ps u r e1
  rw [la] at this
  refine this H0 s0 _ fun v H1 s1 rv => b2 σ H env Ps us r e2 H1 (s0.trans s1) _ fun vs H2 s2 rvs => q _ H2 (s1.trans s2) (.cons (rv.clean.mono (hide_mono s2 _)) rvs)
theorem okE_tup {es : IEs} {xs : List Expr} {kk : Nat} {p : Pos} (h : OkA k defs K S es xs) (hc : chkEs S es xs = true) (hl : xs.length ≤ 1000) : OkE k defs K S (.tup es) (.Tuple xs kk p) := by
  obtain ⟨t, t1, t2⟩ := h
  refine ⟨tTup t, fun X g => pe_tup (t1 X g), fun σ H env Ps d r e H0 s0 Q q => ?_⟩
  simp only [evalE] at e
  obtain ⟨ds, e1, e⟩ := bind_split e
  cases e
  refine t2 σ H env Ps ds r e1 H0 s0 _ fun vs H1 s1 rv => ?_
  have z : ds.length ≤ sizeLine := by rw [evalEs_len hc e1]; exact Nat.le_of_lt (small1000 hl)
  refine ⟨by rw [rv.length]; exact z, fun p hp => q _ _ (s1.trans (same_upd hp)) (.of (new_tup (dom_same r.dom (s0.trans s1)) hp rv z))⟩
theorem okE_lst {es : IEs} {xs : List Expr} {p : Pos} (h : OkA k defs K S es xs) (hc : chkEs S es xs = true) (hl : xs.length ≤ 1000) : OkE k defs K S (.lst es) (.List xs p) := by
  obtain ⟨t, t1, t2⟩ := h
  refine ⟨tLst t, fun X g => pe_lst (t1 X g), fun σ H env Ps d r e H0 s0 Q q => ?_⟩
  simp only [evalE] at e
  obtain ⟨ds, e1, e⟩ := bind_split e
  cases e
  refine t2 σ H env Ps ds r e1 H0 s0 _ fun vs H1 s1 rv => ?_
  have z : ds.length ≤ sizeLine := by rw [evalEs_len hc e1]; exact Nat.le_of_lt (small1000 hl)
  refine ⟨by rw [rv.length]; exact z, fun p hp => q _ _ (s1.trans (same_upd hp)) (.of (new_lst (dom_same r.dom (s0.trans s1)) hp rv z))⟩
/-! ### what is walked -/
theorem okI_seq {a : IE} {e : Expr} (ha : OkE k defs K S a e) (la : lv S.M a = false) : OkI k defs K S (.seq a) e := by
  obtain ⟨t, t1, t2⟩ := ha
  refine ⟨iSeq K t, fun X tg g => ?_, fun σ H env Ps ds r e => ?_⟩
  · have := g.hK
    subst this
    exact pi_seq (t1 X g)
  · simp only [evalIT] at e
    obtain ⟨u, e1, e⟩ := bind_split e
    have := t2 σ H env Ps u r e1
    rw [la] at this
    exact evSeq this e
theorem okI_rng1 {a : IE} {e x : Expr} (ha : OkE k defs K S a x) (h : rng1E S e = some x) : OkI k defs K S (.rng1 a) e := by
  obtain ⟨t, t1, t2⟩ := ha
  obtain ⟨p, q, rfl, h1, h2⟩ := bcall_ok (show bcall S "range" e = some x from h)
  refine ⟨iRng1 (tCons t tNil), fun X tg g => pi_range1 (g.gl h1) (g.free _ (by decide +kernel)) (pa_cons (t1 X g) pa_nil (star1 h2)) (star1 h2), fun σ H env Ps ds r e => ?_⟩
  simp only [evalIT] at e
  obtain ⟨u, e1, e⟩ := bind_split e
  cases u with
  | int n =>
    have e : (if decide (-(2 ^ 62) ≤ n ∧ n ≤ (sizeLine : Int)) = true then Res.ok (rangeD 0 n.toNat) else .bad) = .ok ds := e
    split at e
    · rename_i hz
      cases e
      have hz := of_decide_eq_true hz
      exact evRng1 (t2 σ H env Ps _ r e1) hz.1 hz.2
    · cases e
  | _ => cases e
theorem okI_rng2 {a b : IE} {e x y : Expr} (ha : OkE k defs K S a x) (hb : OkE k defs K S b y) (h : rng2E S e = some (x, y)) : OkI k defs K S (.rng2 a b) e := by
  obtain ⟨ta, a1, a2⟩ := ha
  obtain ⟨tb, b1, b2⟩ := hb
  unfold rng2E at h
  split at h
  · split at h
    · rename_i hc
      cases h
      obtain ⟨rfl, g1, g2, g3⟩ := hc
      refine ⟨iRng2 (tCons ta (tCons tb tNil)), fun X tg g => pi_range2 (g.gl g1) (g.free _ (by decide +kernel)) (pa_cons (a1 X g) (pa_cons (b1 X g) pa_nil (star1 g3)) (star1 g2)) (by rw [star1 g2, star1 g3]; rfl) (star1 g3), fun σ H env Ps ds r e => ?_⟩
      simp only [evalIT] at e
      obtain ⟨u, e1, e⟩ := bind_split e
      obtain ⟨w, e2, e⟩ := bind_split e
      cases u with
      | int i =>
        cases w with
        | int j =>
          have e : (if decide (-(2 ^ 62) ≤ i ∧ i < 2 ^ 62 ∧ -(2 ^ 62) ≤ j ∧ j < 2 ^ 62 ∧ j - i ≤ (sizeLine : Int)) = true then Res.ok (rangeD i (j - i).toNat) else .bad) = .ok ds := e
          split at e
          · rename_i hz
            cases e
            have hz := of_decide_eq_true hz
            exact evRng2 (a2 σ H env Ps _ r e1) (b2 σ H env Ps _ r e2) ⟨hz.1, hz.2.1, hz.2.2.1, hz.2.2.2.1⟩ hz.2.2.2.2
          · cases e
        | _ => cases e
      | _ => cases e
    · cases h
  · cases h
/-! ### comprehensions -/
theorem Gd.blk {X : Cx} (g : Gd S k defs K X) (s : Shared) (H : Hp) (scope : Scope) (C : Addr) (cl : List (Str × Addr)) (fp : List Addr) : Gd (blkS S scope) k defs K (X.blk s H scope (compEnvC scope cl C X.env) fp) where
  hK := g.hK
  N := g.N
  nd := g.nd
  sc := by
    show relS scope X.env.scope = relS scope S.sc
    rw [g.sc]
  calm := g.calm
  room := g.room
  fn := rfl
  free := g.free
  fns := g.fns
theorem own_snd {t : Tg} : (ownOf S t).map (·.2) = t.slots := by
  unfold ownOf
  rw [List.map_map]
  show t.slots.map (fun i => i) = _
  simp
theorem fold_plain {e : Expr} {env : Env} (h : noSet e = true) (x : Value) : foldedSetIterable e env x = pure x := by
  cases e <;> first | rfl | cases h
theorem okE_comp {t : Tg} {it : IT} {elt : IE} {x tg i : Expr} {scope : Scope} {p : Pos} (hi : OkI k defs K S it i) (hx : OkE k defs K (blkS S scope) elt x) (hset : noSet i = true) (hb : blkC S.N S.sc scope (ownOf S t) = true) (ht : chkT (blkS S scope) t tg = true) (hl : lv S.M elt = false) :
    OkE k defs K S (.comp t it elt) (.ListComp x [⟨tg, i, [], 0⟩] scope p) := by
  obtain ⟨wi, i1, i2⟩ := hi
  obtain ⟨te, x1, x2⟩ := hx
  refine ⟨tLc wi (tgR K t) tYes te ((ownOf S t).map (·.2)), fun X g => ?_, fun σ H env Ps d r e => ?_⟩
  · refine pe_lc g.calm (by rw [g.N]; exact g.nd) (i1 X tg g) (by rw [g.N, g.sc]; exact blkOk_by hb) (fun s H C cl fp => ?_) (fun s H C cl fp => pts_nil) (fun s H C cl fp => x1 _ (g.blk s H scope C cl fp)) (fun v => fold_plain hset v)
    exact tg_pg (g.blk s H scope C cl fp) ht
  · simp only [evalE] at e
    obtain ⟨ds, e1, e⟩ := bind_split e
    obtain ⟨rr, e2, e⟩ := bind_split e
    cases e
    refine evComp own_snd r (i2 σ H env Ps ds r e1) (tg_ok (S := blkS S scope) ht) (tame_split e2) fun d o ho => ?_
    obtain ⟨env', h1, h2⟩ := bind_split ho
    obtain ⟨y, h3, h4⟩ := bind_split h2
    cases h4
    refine ⟨env', h1, fun σ' H' Ps' r' => ⟨true, fun H0 s0 Q q => q H0 (Same.refl _), fun _ => ⟨y, rfl, ?_⟩, fun z => nomatch z⟩⟩
    have := x2 σ' H' env' Ps' y r' h3
    have hl' : lv (blkS S scope).M elt = false := hl
    rw [hl'] at this
    exact this
theorem okE_compIf {t : Tg} {it : IT} {c elt : IE} {x y tg i : Expr} {scope : Scope} {p : Pos} (hi : OkI k defs K S it i) (hc : OkB k defs K (blkS S scope) c y) (hx : OkE k defs K (blkS S scope) elt x) (hset : noSet i = true) (hb : blkC S.N S.sc scope (ownOf S t) = true) (ht : chkT (blkS S scope) t tg = true) (hl : lv S.M elt = false) :
    OkE k defs K S (.compIf t it c elt) (.ListComp x [⟨tg, i, [y], 0⟩] scope p) := by
  obtain ⟨wi, i1, i2⟩ := hi
  obtain ⟨tt, c1, c2⟩ := hc
  obtain ⟨te, x1, x2⟩ := hx
  refine ⟨tLc wi (tgR K t) tt te ((ownOf S t).map (·.2)), fun X g => ?_, fun σ H env Ps d r e => ?_⟩
  · refine pe_lc g.calm (by rw [g.N]; exact g.nd) (i1 X tg g) (by rw [g.N, g.sc]; exact blkOk_by hb) (fun s H C cl fp => ?_) (fun s H C cl fp => pts_one (c1 _ (g.blk s H scope C cl fp))) (fun s H C cl fp => x1 _ (g.blk s H scope C cl fp)) (fun v => fold_plain hset v)
    exact tg_pg (g.blk s H scope C cl fp) ht
  · simp only [evalE] at e
    obtain ⟨ds, e1, e⟩ := bind_split e
    obtain ⟨rr, e2, e⟩ := bind_split e
    cases e
    refine evComp own_snd r (i2 σ H env Ps ds r e1) (tg_ok (S := blkS S scope) ht) (tame_split e2) fun d o ho => ?_
    obtain ⟨env', h1, h2⟩ := bind_split ho
    obtain ⟨u, h3, h4⟩ := bind_split h2
    obtain ⟨b, h5, h6⟩ := bind_split h4
    refine ⟨env', h1, fun σ' H' Ps' r' => ⟨b, c2 σ' H' env' Ps' b r' (by rw [h3]; exact h5), fun hb => ?_, fun hb => ?_⟩⟩
    · subst hb
      obtain ⟨y, h7, h8⟩ := bind_split (show (evalE (callF defs k) elt env').bind (fun x => Res.ok (some x)) = .ok o from h6)
      cases h8
      refine ⟨y, rfl, ?_⟩
      have := x2 σ' H' env' Ps' y r' h7
      have hl' : lv (blkS S scope).M elt = false := hl
      rw [hl'] at this
      exact this
    · subst hb
      cases h6
      rfl
end
end Tq

/-! Tq, part K: the theorem of the expressions. -/
namespace Tq
open PySem L2 Res
section
variable {k : Nat} {defs : Nat → Option FDef} {K : PySem.W.Frag}
theorem fnm_ok {S : Sx} {f : Nat} {n : Str} {l : Nat} (h : (match S.fnm f with | some (m, ar) => decide (m = n) && decide (l = ar) && !(n == ("__debug__" : Str)) | none => false) = true) : ∃ ar, S.fnm f = some (n, ar) ∧ l = ar ∧ (n == ("__debug__" : Str)) = false := by
  cases q : S.fnm f with
  | none => rw [q] at h; cases h
  | some p =>
    obtain ⟨m, ar⟩ := p
    rw [q] at h
    simp only [Bool.and_eq_true, decide_eq_true_eq, Bool.not_eq_true'] at h
    exact ⟨ar, by rw [h.1.1], h.1.2, h.2⟩
mutual
theorem soundE : ∀ (ie : IE) (S : Sx) (e : Expr), chkE S ie e = true → OkE k defs K S ie e
  | .var i, S, e, h => okE_var h
  | .non, S, e, h => by
    unfold chkE at h
    split at h <;> first | (cases h; done) | skip
    exact okE_c (v := .non) (d := .none) rfl (fun X => pe_non) (fun env => by simp only [evalE]) fun H => .non
  | .bl b, S, e, h => by
    unfold chkE at h
    split at h <;> first | (cases h; done) | skip
    have h := eq_of_beq h
    subst h
    exact okE_c (v := .bl b) (d := .bool b) rfl (fun X => pe_bl) (fun env => by simp only [evalE]) fun H => .bl b
  | .int i, S, e, h => by
    unfold chkE at h
    split at h <;> first | (cases h; done) | skip
    have h := of_decide_eq_true h
    subst h
    exact okE_c (v := .int i) (d := .int i) rfl (fun X => pe_int) (fun env => by simp only [evalE]) fun H => .int i
  | .str x, S, e, h => by
    unfold chkE at h
    split at h <;> first | (cases h; done) | skip
    simp only [smallStr, Bool.and_eq_true, decide_eq_true_eq] at h
    obtain ⟨rfl, h1, h2⟩ := h
    exact okE_c (v := .str x) (d := .str x) rfl (fun X => pe_str) (fun env => by simp only [evalE]) fun H => .str (Nat.le_of_lt (small1000 h1)) h2
  | .glob _ _, S, e, h => by simp [chkE] at h
  | .tup es, S, e, h => by
    unfold chkE at h
    split at h <;> first | (cases h; done) | skip
    simp only [Bool.and_eq_true, decide_eq_true_eq] at h
    exact okE_tup (soundEs es S _ h.1) h.1 h.2
  | .lst es, S, e, h => by
    unfold chkE at h
    split at h <;> first | (cases h; done) | skip
    simp only [Bool.and_eq_true, decide_eq_true_eq] at h
    exact okE_lst (soundEs es S _ h.1) h.1 h.2
  | .o1 op a, S, e, h => by
    unfold chkE at h
    split at h <;> first | (cases h; done) | skip
    rename_i x q
    exact okE_o1 (soundE a S x h) q
  | .o2 op a b, S, e, h => by
    unfold chkE at h
    split at h <;> first | (cases h; done) | skip
    rename_i x y q
    simp only [Bool.and_eq_true] at h
    exact okE_o2 (soundE a S x h.1) (soundE b S y h.2) q
  | .o3 _ _ _ _, S, e, h => by simp [chkE] at h
  | .isi a t, S, e, h => by
    unfold chkE at h
    split at h <;> first | (cases h; done) | skip
    rename_i x q
    exact okE_isi (soundE a S x h) q
  | .and_ a b, S, e, h => by
    unfold chkE at h
    split at h <;> first | (cases h; done) | skip
    rename_i x y q
    simp only [Bool.and_eq_true, Bool.not_eq_true'] at h
    exact okE_and (soundE a S x h.1.1.1) (soundE b S y h.1.1.2) q h.1.2 h.2
  | .or_ a b, S, e, h => by
    unfold chkE at h
    split at h <;> first | (cases h; done) | skip
    rename_i x y q
    simp only [Bool.and_eq_true, Bool.not_eq_true'] at h
    exact okE_or (soundE a S x h.1.1.1) (soundE b S y h.1.1.2) q h.1.2 h.2
  | .ifE c a b, S, e, h => by
    unfold chkE at h
    split at h <;> first | (cases h; done) | skip
    simp only [Bool.and_eq_true, Bool.not_eq_true'] at h
    exact okE_if (soundB c S _ h.1.1.1.1) (soundE a S _ h.1.1.1.2) (soundE b S _ h.1.1.2) h.1.2 h.2
  | .chain o p a b c, S, e, h => by
    unfold chkE at h
    split at h <;> first | (cases h; done) | skip
    simp only [Bool.and_eq_true, decide_eq_true_eq] at h
    exact (okE_chain (soundE a S _ h.1.1.2) (soundE b S _ h.1.2) (soundE c S _ h.2) h.1.1.1.1.1.1 h.1.1.1.1.1.2 h.1.1.1.2).1
  | .call f es, S, e, h => by
    unfold chkE at h
    split at h <;> first | (cases h; done) | skip
    simp only [Bool.and_eq_true] at h
    obtain ⟨ar, h1, h2, h3⟩ := fnm_ok h.1.1
    exact okE_call (soundEs es S _ h.2) h1 h2 h3 h.1.2 h.2
  | .comp t it elt, S, e, h => by
    unfold chkE at h
    split at h <;> first | (cases h; done) | skip
    simp only [Bool.and_eq_true, Bool.not_eq_true'] at h
    obtain ⟨⟨⟨⟨⟨⟨⟨h1, h2⟩, h3⟩, h4⟩, h5⟩, h6⟩, _⟩, _⟩ := h
    exact okE_comp (soundIT it S _ h1) (soundE elt _ _ h5) h2 h3 h4 h6
  | .compIf t it c elt, S, e, h => by
    unfold chkE at h
    split at h <;> first | (cases h; done) | skip
    simp only [Bool.and_eq_true, Bool.not_eq_true'] at h
    obtain ⟨⟨⟨⟨⟨⟨⟨⟨h1, h2⟩, h3⟩, h4⟩, hc⟩, h5⟩, h6⟩, _⟩, _⟩ := h
    exact okE_compIf (soundIT it S _ h1) (soundB c _ _ hc) (soundE elt _ _ h5) h2 h3 h4 h6
theorem soundB : ∀ (ie : IE) (S : Sx) (e : Expr), chkB S ie e = true → OkB k defs K S ie e
  | .and_ a b, S, e, h => by
    unfold chkB at h
    split at h <;> first | (cases h; done) | skip
    rename_i x y q
    simp only [Bool.and_eq_true] at h
    exact okB_and (soundB a S x h.1) (soundB b S y h.2) q
  | .or_ a b, S, e, h => by
    unfold chkB at h
    split at h <;> first | (cases h; done) | skip
    rename_i x y q
    simp only [Bool.and_eq_true] at h
    exact okB_or (soundB a S x h.1) (soundB b S y h.2) q
  | .o2 op a b, S, e, h => by
    unfold chkB at h
    split at h
    · split at h <;> first | (cases h; done) | skip
      rename_i x y q
      simp only [Bool.and_eq_true] at h
      exact okB_cmp (soundE a S _ h.1) (soundE b S _ h.2) q
    · simp only [Bool.and_eq_true] at h
      obtain ⟨hp, h⟩ := h
      split at h <;> first | (cases h; done) | skip
      rename_i x y q
      simp only [Bool.and_eq_true] at h
      exact okB_of (okE_o2 (soundE a S x h.1) (soundE b S y h.2) q) hp
  | .chain o p a b c, S, e, h => by
    unfold chkB at h
    split at h <;> first | (cases h; done) | skip
    simp only [Bool.and_eq_true, decide_eq_true_eq] at h
    exact (okE_chain (soundE a S _ h.1.1.2) (soundE b S _ h.1.2) (soundE c S _ h.2) h.1.1.1.1.1.1 h.1.1.1.1.1.2 h.1.1.1.2).2
  | .var i, S, e, h => by
    unfold chkB at h
    split at h <;> first | (cases h; done) | skip
    exact okB_of (okE_var (by unfold chkE; exact h)) rfl
  | .isi a t, S, e, h => by
    unfold chkB at h
    split at h <;> first | (cases h; done) | skip
    rename_i x q
    refine okB_of (okE_isi (soundE a S x h) q) ?_
    obtain ⟨_, _, _, _, rfl, _⟩ := isiE_ok q
    rfl
  | .call f es, S, e, h => by
    unfold chkB at h
    split at h <;> first | (cases h; done) | skip
    simp only [Bool.and_eq_true] at h
    obtain ⟨ar, h1, h2, h3⟩ := fnm_ok h.1.1
    exact okB_of (okE_call (soundEs es S _ h.2) h1 h2 h3 h.1.2 h.2) rfl
  | .o1 op a, S, e, h => by
    by_cases hn : op = .not
    · subst hn
      unfold chkB at h
      split at h <;> first | (cases h; done) | skip
      exact okB_not (soundB a S _ h)
    · have h' : (plainTest e && (match sh1 S op e with | some x => chkE S a x | none => false)) = true := by
        cases op <;> first | exact absurd rfl hn | (unfold chkB at h; exact h)
      simp only [Bool.and_eq_true] at h'
      obtain ⟨hp, h'⟩ := h'
      split at h' <;> first | (cases h'; done) | skip
      rename_i x q
      exact okB_of (okE_o1 (soundE a S x h') q) hp
  | .non, S, e, h | .bl _, S, e, h | .int _, S, e, h | .str _, S, e, h | .glob _ _, S, e, h | .tup _, S, e, h | .lst _, S, e, h | .o3 _ _ _ _, S, e, h | .ifE _ _ _, S, e, h | .comp _ _ _, S, e, h | .compIf _ _ _ _, S, e, h => by unfold chkB at h; cases h
theorem soundEs : ∀ (as : IEs) (S : Sx) (es : List Expr), chkEs S as es = true → OkA k defs K S as es
  | .nil, S, [], h => okA_nil
  | .nil, S, _ :: _, h => by simp [chkEs] at h
  | .cons _ _, S, [], h => by simp [chkEs] at h
  | .cons a as, S, e :: es, h => by
    simp only [chkEs, Bool.and_eq_true, Bool.not_eq_true'] at h
    exact okA_cons (soundE a S e h.1.1.2) (soundEs as S es h.2) h.1.1.1 h.1.2
theorem soundIT : ∀ (it : IT) (S : Sx) (e : Expr), chkIT S it e = true → OkI k defs K S it e
  | .seq a, S, e, h => by
    simp only [chkIT, Bool.and_eq_true, Bool.not_eq_true'] at h
    exact okI_seq (soundE a S e h.1) h.2
  | .rng1 a, S, e, h => by
    unfold chkIT at h
    split at h <;> first | (cases h; done) | skip
    rename_i x q
    exact okI_rng1 (soundE a S x h) q
  | .rng2 a b, S, e, h => by
    unfold chkIT at h
    split at h <;> first | (cases h; done) | skip
    rename_i x y q
    simp only [Bool.and_eq_true] at h
    exact okI_rng2 (soundE a S x h.1) (soundE b S y h.2) q
  | .enum _, S, e, h => by simp [chkIT] at h
  | .zip _ _, S, e, h => by simp [chkIT] at h
  | .rev _, S, e, h => by simp [chkIT] at h
end
end
end Tq

/-! Tq, part L: statements. -/
namespace Tq
open PySem L2 Res

def noTup : Expr → Bool
  | .Tuple .. => false
  | _ => true
def isNm : Tg → Bool
  | .nm _ => true
  | _ => false
def lineOf : Expr → Nat := fun e => e.pos.line
/-- a comprehension whose list goes straight to a local name -/
def swB (S : Sx) (x : Str) (px : Pos) (e : Expr) : Bool := match e with
  | .ListComp _ _ scope p => decide (S.sc.names.lookup x = some .local) && (px.line == p.line) && !(scope.names.any fun (n, k) => n == x && (k == .local || k == .cell))
  | _ => false
def dirty (S : Sx) : Sx := { S with M := [] }
mutual
def chkS (S : Sx) : IS → Stmt → Bool
  | .pass, s => match s with | .Pass _ => true | _ => false
  | .asg t e, s => match s with
    | .Assign [tg] x _ => chkT S t tg && chkE S e x && !(lv S.M e) && (noComp x && (isNm t || noTup x) || isNm t && (match tg with | .Name n p => swB S n p x | _ => false))
    | _ => false
  | .par i j a b, s => match s with
    | .Assign [.Tuple [.Name n p, .Name m q] _ _] (.Tuple [x, y] _ _) _ => decide (S.N[i]? = some n) && decide (S.N[j]? = some m) && decide (i ≠ j) && decide (S.sc.names.lookup n = some .local) && decide (S.sc.names.lookup m = some .local) && (p.line == q.line) && !(n == m) &&
        !(S.M.contains i) && !(S.M.contains j) && noStar x && noStar y && chkE S a x && chkE S b y && !(lv S.M a) && !(lv S.M b) && !([x, y].all (foldedForSure 8)) && !([x, y].all (constantsAlone 8))
    | _ => false
  | .mset _ _, _ => false
  | .app _ _, _ => false
  | .ret e, s => match s with | .Return (some x) _ => chkE (dirty S) e x | _ => false
  | .if_ c a b, s => match s with | .If x y z _ => chkB (dirty S) c x && chkSs S a y && chkSs S b z | _ => false
  | .for_ t it body, s => match s with | .For tg i b [] _ => chkT S t tg && chkIT S it i && noSet i && chkSs S body b | _ => false
def chkSs (S : Sx) : ISs → List Stmt → Bool
  | .nil, [] => true
  | .cons a as, s :: ss => chkS S a s && chkSs S as ss
  | _, _ => false
end

/-! ### the state -/
structure SR (K : PySem.W.Frag) (M : List Nat) (H0 : Hp) (out : List Addr) (H : Hp) (Ps : List Addr) (σ : St) (env : En) : Prop where
  er : EnvR K M H (Ps ++ out) σ env
  ent : Same H0 H
  fr : ∀ p ∈ Ps, H0 p = none
  odom : ∀ q ∈ out, H0 q ≠ none
  own : ∀ (i : Nat) (d : D), M.contains i = true → env[i]? = some (some d) → ∃ p, σ[i]? = some (some (.ref p)) ∧ p ∈ Ps
mutual
theorem put_keep : ∀ {t : Tg} {d : D} {a a' : En}, t.put d a = .ok a' → Out t.slots a' a
  | .nm i, d, a, a', e => by
    cases e
    refine ⟨by simp, fun j hj => List.getElem?_set_ne fun z => hj (by simp [Tg.slots, z])⟩
  | .tu ts, d, a, a', e => by
    cases d with
    | tuple ds => exact puts_keep (t := ts) (ds := ds) e
    | _ => cases e
theorem puts_keep : ∀ {t : Tgs} {ds : List D} {a a' : En}, t.put ds a = .ok a' → Out t.slots a' a
  | .nil, [], a, a', e => by cases e; exact Out.refl _
  | .nil, _ :: _, _, _, e => by simp [Tgs.put] at e
  | .cons _ _, [], _, _, e => by simp [Tgs.put] at e
  | .cons t ts, d :: ds, a, a', e => by
    simp only [Tgs.put] at e
    obtain ⟨a1, e1, e2⟩ := bind_split e
    exact ((puts_keep e2).mono fun i hi => by simp [Tgs.slots, hi]).trans ((put_keep e1).mono fun i hi => by simp [Tgs.slots, hi])
end
mutual
theorem slots_out {S : Sx} : ∀ {t : Tg} {e : Expr}, chkT S t e = true → ∀ i ∈ t.slots, S.M.contains i = false
  | .nm i, e, h => by
    cases e with
    | Name x p =>
      simp only [chkT, Bool.and_eq_true, Bool.not_eq_true'] at h
      intro j hj
      simp only [Tg.slots, List.mem_singleton] at hj
      subst hj
      exact h.2
    | _ => simp [chkT] at h
  | .tu ts, e, h => by
    cases e with
    | Tuple es kk p => exact slotss_out (ts := ts) (es := es) (by simpa [chkT] using h)
    | _ => simp [chkT] at h
theorem slotss_out {S : Sx} : ∀ {ts : Tgs} {es : List Expr}, chkTs S ts es = true → ∀ i ∈ ts.slots, S.M.contains i = false
  | .nil, [], _ => fun i hi => by simp [Tgs.slots] at hi
  | .nil, _ :: _, h => by simp [chkTs] at h
  | .cons _ _, [], h => by simp [chkTs] at h
  | .cons t ts, e :: es, h => by
    simp only [chkTs, Bool.and_eq_true] at h
    intro i hi
    simp only [Tgs.slots, List.mem_append] at hi
    exact hi.elim (slots_out h.1.2 i) (slotss_out h.2 i)
end
section
variable {K : PySem.W.Frag} {M : List Nat} {H0 H H' : Hp} {out Ps Ps' : List Addr} {σ : St} {env : En}
theorem SR.same (r : SR K M H0 out H Ps σ env) (s : Same H H') : SR K M H0 out H' Ps σ env := ⟨r.er.same s, r.ent.trans s, r.fr, r.odom, r.own⟩
theorem SR.view (r : SR K M H0 out H Ps σ env) : Same (hide H (Ps ++ out)) (hide H (Ps ++ out)) := Same.refl _
/-- all slots plain, the caller's places hidden -/
theorem SR.dirty (r : SR K M H0 out H Ps σ env) : EnvR K [] H out σ env where
  get := fun i d e => by
    obtain ⟨v, h1, h2, h3⟩ := r.er.get i d e
    have sub : Same (hide H (Ps ++ out)) (hide H out) := fun a o h => by
      obtain ⟨q1, q2⟩ := hide_some h
      rw [hide_out fun z => q1 (List.mem_append_right _ z)]
      exact q2
    refine ⟨v, h1, .of ?_, fun z => by simp at z⟩
    rcases h2 with h2 | ⟨hb, h2⟩
    · exact h2.mono sub
    · obtain ⟨p, hp, hps⟩ := r.own i d hb e
      rw [h1] at hp
      have hp : v = .ref p := Option.some.inj (Option.some.inj hp)
      subst hp
      cases d with
      | list ds =>
        obtain ⟨p', xs, e1, e2, e3, e4, e5⟩ := h2
        cases e1
        refine .lst ?_ (e4.mono sub) e5
        rw [hide_out fun z => r.odom p z (r.fr p hps)]
        exact e3
      | _ => exact False.elim h2
  inj := fun i j p d e hi _ _ _ _ _ _ => by simp at hi
  dom := fun q hq => r.er.dom q (List.mem_append_right _ hq)
  len := r.er.len
end
/-- what is wanted behind a statement -/
def FlPost (K : PySem.W.Frag) (M : List Nat) (H0 : Hp) (out : List Addr) (H : Hp) (Ps : List Addr) (Dn : Ends) : Fl → Prop
  | .next env' => ∀ σ' H' Ps', Same (hide H (Ps ++ out)) (hide H' (Ps' ++ out)) → SR K M H0 out H' Ps' σ' env' → Dn.nx σ' H'
  | .ret d => ∀ v H', Same H0 H' → Rp K (hide H' out) v d → Dn.rt v H'
theorem FlPost.step {K : PySem.W.Frag} {M : List Nat} {H0 H H1 : Hp} {out Ps Ps1 : List Addr} {Dn : Ends} {fl : Fl} (q : FlPost K M H0 out H Ps Dn fl) (s : Same (hide H (Ps ++ out)) (hide H1 (Ps1 ++ out))) : FlPost K M H0 out H1 Ps1 Dn fl := by
  cases fl with
  | next env' => exact fun σ' H' Ps' s' r' => q σ' H' Ps' (s.trans s') r'
  | ret d => exact q
/-- what a statement comes to -/
def EvS (K : PySem.W.Frag) (M : List Nat) (H0 : Hp) (out : List Addr) (t : TS) (σ : St) (H : Hp) (Ps : List Addr) (fl : Fl) : Prop := ∀ Dn : Ends, FlPost K M H0 out H Ps Dn fl → t Dn σ H
structure GdS (S : Sx) (k : Nat) (defs : Nat → Option FDef) (K : PySem.W.Frag) (X : Cx) : Prop where
  gd : Gd S k defs K X
  pas : PassesOwn (model X.prog X.w) X.A X.env X.xe
  kind : S.sc.kind = .function
section
variable (k : Nat) (defs : Nat → Option FDef) (K : PySem.W.Frag)
def OkS (S : Sx) (is : IS) (st : Stmt) : Prop := ∃ t, (∀ X, GdS S k defs K X → PS X st t) ∧ ∀ H0 out σ H env Ps fl, SR K S.M H0 out H Ps σ env → evalS (callF defs k) is env = .ok fl → EvS K S.M H0 out t σ H Ps fl
def OkSs (S : Sx) (is : ISs) (st : List Stmt) : Prop := ∃ t, (∀ X, GdS S k defs K X → PSs X st t) ∧ ∀ H0 out σ H env Ps fl, SR K S.M H0 out H Ps σ env → evalSs (callF defs k) is env = .ok fl → EvS K S.M H0 out t σ H Ps fl
end
section
variable {k : Nat} {defs : Nat → Option FDef} {K : PySem.W.Frag} {S : Sx}
theorem GdS.dirty {X : Cx} (g : GdS S k defs K X) : Gd (dirty S) k defs K X := ⟨g.gd.hK, g.gd.N, g.gd.nd, g.gd.sc, g.gd.calm, g.gd.room, g.gd.fn, g.gd.free, g.gd.fns⟩
theorem okS_pass {p : Pos} : OkS k defs K S .pass (.Pass p) := ⟨tNext, fun X _ => ps_pass, fun H0 out σ H env Ps fl r e Dn q => by
  simp only [evalS] at e; cases e
  exact q σ H Ps (Same.refl _) r⟩
theorem okS_ret {ie : IE} {e : Expr} {p : Pos} (h : OkE k defs K (dirty S) ie e) : OkS k defs K S (.ret ie) (.Return (some e) p) := by
  obtain ⟨t, t1, t2⟩ := h
  refine ⟨tRet t, fun X g => ps_ret (t1 X g.dirty), fun H0 out σ H env Ps fl r e Dn q => ?_⟩
  simp only [evalS] at e
  obtain ⟨d, e1, e⟩ := bind_split e
  cases e
  have := t2 σ H env out d r.dirty e1
  have hl : lv (dirty S).M ie = false := by cases ie <;> rfl
  rw [hl] at this
  exact this H (Same.refl _) Dn.rt fun v H1 s1 rv => q v H1 (r.ent.trans s1) rv.clean
theorem okS_if {c : IE} {a b : ISs} {x : Expr} {y z : List Stmt} {p : Pos} (hc : OkB k defs K (dirty S) c x) (ha : OkSs k defs K S a y) (hb : OkSs k defs K S b z) : OkS k defs K S (.if_ c a b) (.If x y z p) := by
  obtain ⟨tc, c1, c2⟩ := hc
  obtain ⟨ta, a1, a2⟩ := ha
  obtain ⟨tb, b1, b2⟩ := hb
  refine ⟨tIfS tc ta tb, fun X g => ps_if (c1 X g.dirty) (a1 X g) (b1 X g), fun H0 out σ H env Ps fl r e Dn q => ?_⟩
  simp only [evalS] at e
  obtain ⟨u, e1, e⟩ := bind_split e
  obtain ⟨t, e2, e⟩ := bind_split e
  refine c2 σ H env out t r.dirty (by rw [e1]; exact e2) H (Same.refl _) _ fun H1 s1 => ?_
  have r1 := r.same s1
  have q1 := q.step (hide_mono s1 (Ps ++ out))
  cases t with
  | true => exact iteT (a2 H0 out σ H1 env Ps fl r1 e Dn q1)
  | false => exact iteF (b2 H0 out σ H1 env Ps fl r1 e Dn q1)
theorem okSs_nil : OkSs k defs K S .nil [] := ⟨tNext, fun X _ => pss_nil, fun H0 out σ H env Ps fl r e Dn q => by
  simp only [evalSs] at e; cases e
  exact q σ H Ps (Same.refl _) r⟩
theorem okSs_cons {a : IS} {as : ISs} {s : Stmt} {ss : List Stmt} (ha : OkS k defs K S a s) (hs : OkSs k defs K S as ss) : OkSs k defs K S (.cons a as) (s :: ss) := by
  obtain ⟨ta, a1, a2⟩ := ha
  obtain ⟨tb, b1, b2⟩ := hs
  refine ⟨tSeq ta tb, fun X g => pss_cons (a1 X g) (b1 X g), fun H0 out σ H env Ps fl r e Dn q => ?_⟩
  simp only [evalSs] at e
  obtain ⟨f1, e1, e⟩ := bind_split e
  refine a2 H0 out σ H env Ps f1 r e1 { Dn with nx := tb Dn } ?_
  cases f1 with
  | next env1 =>
    intro σ1 H1 Ps1 s1 r1
    exact b2 H0 out σ1 H1 env1 Ps1 fl r1 e Dn (q.step s1)
  | ret d =>
    cases e
    exact q
theorem swap_noComp {e : Expr} {t : Option Expr} {l : Nat} {env : Env} (h : noComp e = true) : swapsWith e t l env = pure false := by
  cases e <;> first | rfl | cases h
theorem stores_name {x : Str} {p : Pos} {e : Expr} {env : Env} : swappedStores [.Name x p] e env = pure none := rfl
theorem stores_noTup {t e : Expr} {env : Env} (h : noTup e = true) : swappedStores [t] e env = pure none := by
  cases e <;> first | (cases t <;> rfl) | cases h
theorem swB_ok {x : Str} {px : Pos} {e : Expr} (h : swB S x px e = true) : ∃ elt gs scope p, e = .ListComp elt gs scope p ∧ S.sc.names.lookup x = some .local ∧ (px.line == p.line) = true ∧ (scope.names.any fun (n, k) => n == x && (k == .local || k == .cell)) = false := by
  unfold swB at h
  split at h
  · simp only [Bool.and_eq_true, decide_eq_true_eq, Bool.not_eq_true'] at h
    exact ⟨_, _, _, _, rfl, h.1.1, h.1.2, h.2⟩
  · cases h
/-- a comprehension's list stored as it is made -/
theorem okS_asgLc {i : Nat} {ie : IE} {x : Str} {px p : Pos} {e : Expr} (hp : ∃ t, (∀ X, GdS S k defs K X → PS X (.Assign [.Name x px] e p) (tAsg t (gName i))) ∧ ∀ σ H env Ps d, EnvR K S.M H Ps σ env → evalE (callF defs k) ie env = .ok d → EvD K t σ H Ps false d) (hm : S.M.contains i = false) :
    OkS k defs K S (.asg (.nm i) ie) (.Assign [.Name x px] e p) := by
  obtain ⟨t, t1, t2⟩ := hp
  refine ⟨tAsg t (gName i), t1, fun H0 out σ H env Ps fl r e Dn q => ?_⟩
  simp only [evalS] at e
  obtain ⟨d, e1, e⟩ := bind_split e
  obtain ⟨env', e2, e⟩ := bind_split e
  cases e
  cases e2
  refine t2 σ H env (Ps ++ out) d r.er e1 H (Same.refl _) _ fun v H1 s1 rv => ?_
  have r1 := r.same s1
  refine q _ H1 Ps (hide_mono s1 _) ⟨r1.er.set hm rv.clean, r1.ent, r1.fr, r1.odom, fun j d' hj he => ?_⟩
  have ne : i ≠ j := fun z => by subst z; rw [hm] at hj; cases hj
  rw [List.getElem?_set_ne ne] at he ⊢
  exact r1.own j d' hj he
theorem okS_asg {t : Tg} {ie : IE} {tg e : Expr} {p : Pos} (h : OkE k defs K S ie e) (ht : chkT S t tg = true) (hl : lv S.M ie = false) (hs : noComp e = true) (hw : ∀ env, swappedStores [tg] e env = pure none) (hst : noStar tg = true) : OkS k defs K S (.asg t ie) (.Assign [tg] e p) := by
  obtain ⟨te, t1, t2⟩ := h
  refine ⟨tAsg te (tgR K t), fun X g => ps_asg (t1 X g.gd) (tg_pg g.gd ht) (swap_noComp hs) (hw _) (by rw [asg_star hst]; rfl), fun H0 out σ H env Ps fl r e Dn q => ?_⟩
  simp only [evalS] at e
  obtain ⟨d, e1, e⟩ := bind_split e
  obtain ⟨env', e2, e⟩ := bind_split e
  cases e
  have := t2 σ H env (Ps ++ out) d r.er e1
  rw [hl] at this
  refine this H (Same.refl _) _ fun v H1 s1 rv => ?_
  have r1 := r.same s1
  refine tg_ok ht v σ H1 (Ps ++ out) env env' d _ r1.er rv.clean e2 fun σ' ou r2 => ?_
  refine q σ' H1 Ps (hide_mono s1 _) ⟨r2, r1.ent, r1.fr, r1.odom, fun j d' hj he => ?_⟩
  have nj : j ∉ t.slots := fun z => by rw [slots_out ht j z] at hj; cases hj
  rw [(put_keep e2).2 j nj] at he
  rw [ou.2 j nj]
  exact r1.own j d' hj he
theorem okS_par {i j : Nat} {a b : IE} {n m : Str} {x y : Expr} {p1 p2 p3 p4 p : Pos} {k1 k2 : Nat} (ha : OkE k defs K S a x) (hb : OkE k defs K S b y) (la : lv S.M a = false) (lb : lv S.M b = false) (sx : noStar x = true) (sy : noStar y = true)
    (hi : S.N[i]? = some n) (hj : S.N[j]? = some m) (hij : i ≠ j) (ln : S.sc.names.lookup n = some .local) (lm : S.sc.names.lookup m = some .local) (hline : (p1.line == p2.line) = true) (hnm : (n == m) = false)
    (mi : S.M.contains i = false) (mj : S.M.contains j = false) (hf : ([x, y].all (foldedForSure 8)) = false) (hcc : ([x, y].all (constantsAlone 8)) = false) (hk : S.sc.kind = .function) :
    OkS k defs K S (.par i j a b) (.Assign [.Tuple [.Name n p1, .Name m p2] k1 p3] (.Tuple [x, y] k2 p4) p) := by
  obtain ⟨ta, a1, a2⟩ := ha
  obtain ⟨tb, b1, b2⟩ := hb
  refine ⟨tPar i j (tCons ta (tCons tb tNil)), fun X g => ?_, fun H0 out σ H env Ps fl r e Dn q => ?_⟩
  · have kn : X.env.scope.names.lookup n = some .local := by rw [g.gd.sc]; exact ln
    have km : X.env.scope.names.lookup m = some .local := by rw [g.gd.sc]; exact lm
    refine ps_par g.gd.calm (by rw [g.gd.N]; exact g.gd.nd) (by rw [g.gd.N]; exact hi) (by rw [g.gd.N]; exact hj) hij kn km (pa_cons (a1 X g.gd) (pa_cons (b1 X g.gd) pa_nil (star1 sy)) (star1 sx)) ?_ rfl
    have bk : X.env.blockKind = .function := by
      unfold Env.blockKind
      rw [g.gd.sc, hk]; rfl
    have kn' : X.env.kindOf n = some .local := kn
    have km' : X.env.kindOf m = some .local := km
    have hl1 : (p1.line == p1.line) = true := by simp
    have hl2 : (p2.line == p1.line) = true := by
      have := eq_of_beq hline
      rw [this]; simp
    have nm' : (m == n) = false := by
      rw [beq_eq_false_iff_ne] at hnm ⊢
      exact Ne.symm hnm
    have ll : (some NameKind.local == some NameKind.local && true) = true := rfl
    unfold swappedStores
    simp only [List.length_cons, List.length_nil, bk, List.head?_cons, Option.map_some, Option.getD_some, Expr.pos, List.filterMap_cons, List.filterMap_nil, kn', km', hl1, hl2, hf, hcc, ll, if_true]
    refine (if_neg (by decide)).trans ?_
    refine (if_neg ?_).trans ?_
    · intro h
      simp only [List.any_cons, List.any_nil, Bool.or_false, Bool.or_eq_true] at h
      rcases h with h | h
      · split at h
        · cases sx
        · cases h
      · split at h
        · cases sy
        · cases h
    refine (if_neg ?_).trans ?_
    · intro h
      simp only [List.eraseDups_cons, List.eraseDups_nil, List.filter_cons, List.filter_nil, nm', Bool.not_false, if_true, List.length_cons, List.length_nil] at h
      exact absurd h (by decide)
    rfl
  · simp only [evalS] at e
    obtain ⟨u, e1, e⟩ := bind_split e
    obtain ⟨w, e2, e⟩ := bind_split e
    cases e
    have ha := a2 σ H env (Ps ++ out) u r.er e1
    rw [la] at ha
    refine ha H (Same.refl _) _ fun v H1 s1 rv => ?_
    have hb := b2 σ H env (Ps ++ out) w r.er e2
    rw [lb] at hb
    refine hb H1 s1 _ fun v2 H2 s2 rv2 => ⟨v, v2, rfl, ?_⟩
    have r2 := r.same (s1.trans s2)
    refine q _ H2 Ps (hide_mono (s1.trans s2) _) ⟨(r2.er.set mi (rv.clean.mono (hide_mono s2 _))).set mj rv2.clean, r2.ent, r2.fr, r2.odom, fun l d' hl he => ?_⟩
    have n1 : i ≠ l := fun z => by subst z; rw [mi] at hl; cases hl
    have n2 : j ≠ l := fun z => by subst z; rw [mj] at hl; cases hl
    rw [List.getElem?_set_ne n2, List.getElem?_set_ne n1] at he ⊢
    exact r2.own l d' hl he
theorem okS_for {t : Tg} {it : IT} {body : ISs} {tg i : Expr} {b : List Stmt} {p : Pos} (hi : OkI k defs K S it i) (hb : OkSs k defs K S body b) (ht : chkT S t tg = true) (hset : noSet i = true) : OkS k defs K S (.for_ t it body) (.For tg i b [] p) := by
  obtain ⟨wi, i1, i2⟩ := hi
  obtain ⟨tb, b1, b2⟩ := hb
  refine ⟨tFor wi (tgR K t) tb, fun X g => ps_for g.pas g.gd.calm (i1 X tg g.gd) (tg_pg g.gd ht) (b1 X g) (fun v => fold_plain hset v), fun H0 out σ H env Ps fl r e Dn q => ?_⟩
  simp only [evalS] at e
  obtain ⟨ds, e1, e⟩ := bind_split e
  refine i2 σ H env (Ps ++ out) ds r.er e1 H (Same.refl _) _ fun J H1 s1 itk => ?_
  obtain ⟨z, G, Y, w, stab, yl⟩ := itk
  generalize hf : (fun d e => (t.put d e).bind fun e' => evalSs (callF defs k) body e') = f at e
  refine for_it w (fun i σi Hi => ∃ envi Psi, SR K S.M H0 out Hi Psi σi envi ∧ Same (hide H1 (Ps ++ out)) (hide Hi (Psi ++ out)) ∧ forD f (ds.drop i) envi = .ok fl) ?_ ?_ ?_ ?_
  · exact ⟨env, Ps, r.same s1, Same.refl _, by simpa using e⟩
  · rintro i σi Hi hle ⟨envi, Psi, ri, si, _⟩
    exact stab _ Hi si
  · rintro i x σi Hi H' hlt ⟨envi, Psi, ri, si, ei⟩ y
    obtain ⟨s2, d, hd, rx⟩ := yl i (Psi ++ out) Hi x H' hlt si ri.er.dom y
    have hdrop : ds.drop i = d :: ds.drop (i + 1) := by
      have hlt' : i < ds.length := hlt
      rw [List.drop_eq_getElem_cons hlt']
      have : ds[i] = d := by
        rw [List.getElem?_eq_getElem hlt'] at hd
        exact Option.some.inj hd
      rw [this]
    rw [hdrop] at ei
    simp only [forD] at ei
    obtain ⟨fr, ef, ei⟩ := bind_split ei
    rw [← hf] at ef
    obtain ⟨env', ep, eb⟩ := bind_split ef
    have ri' := ri.same s2
    refine tg_ok ht x σi H' (Psi ++ out) envi env' d _ ri'.er rx ep fun σ2 ou r2 => ?_
    have rs : SR K S.M H0 out H' Psi σ2 env' := ⟨r2, ri'.ent, ri'.fr, ri'.odom, fun j d' hj he => by
      have nj : j ∉ t.slots := fun z => by rw [slots_out ht j z] at hj; cases hj
      rw [(put_keep ep).2 j nj] at he
      rw [ou.2 j nj]
      exact ri'.own j d' hj he⟩
    refine b2 H0 out σ2 H' env' Psi fr rs eb _ ?_
    cases fr with
    | next e2 => exact fun σ3 H3 Ps3 s3 r3 => ⟨e2, Ps3, r3, (si.trans (hide_mono s2 _)).trans s3, ei⟩
    | ret dd =>
      cases ei
      exact q
  · rintro σn Hn ⟨envn, Psn, rn, sn, en⟩
    rw [List.drop_length] at en
    simp only [forD] at en
    cases en
    exact q σn Hn Psn ((hide_mono s1 _).trans sn) rn
end
end Tq

/-! Tq, part M: blocks, defs, the law. -/
namespace Tq
open PySem L2 Res
section
variable {k : Nat} {defs : Nat → Option FDef} {K : PySem.W.Frag} {S : Sx}
theorem lc_comp {i : Nat} {t : Tg} {it : IT} {elt : IE} {x tg ie : Expr} {scope : Scope} {y : Str} {py p sp : Pos} (hi : OkI k defs K S it ie) (hx : OkE k defs K (blkS S scope) elt x) (hset : noSet ie = true) (hb : blkC S.N S.sc scope (ownOf S t) = true) (ht : chkT (blkS S scope) t tg = true) (hl : lv S.M elt = false)
    (hy : S.N[i]? = some y) (yl : S.sc.names.lookup y = some .local) (ln : (py.line == p.line) = true) (na : (scope.names.any fun (n, k) => n == y && (k == .local || k == .cell)) = false) :
    ∃ te, (∀ X, GdS S k defs K X → PS X (.Assign [.Name y py] (.ListComp x [⟨tg, ie, [], 0⟩] scope p) sp) (tAsg te (gName i))) ∧ ∀ σ H env Ps d, EnvR K S.M H Ps σ env → evalE (callF defs k) (.comp t it elt) env = .ok d → EvD K te σ H Ps false d := by
  obtain ⟨wi, i1, i2⟩ := id hi
  obtain ⟨te, x1, x2⟩ := id hx
  refine ⟨tLc wi (tgR K t) tYes te ((ownOf S t).map (·.2)), fun X g => ?_, fun σ H env Ps d r e => ?_⟩
  · have yl' : X.env.scope.names.lookup y = some .local := by rw [g.gd.sc]; exact yl
    refine ps_setLc g.gd.calm (by rw [g.gd.N]; exact g.gd.nd) (by rw [g.gd.N]; exact hy) yl' (sw_true (by rw [g.gd.sc]; exact g.kind) yl' ln na) (i1 X tg g.gd) (by rw [g.gd.N, g.gd.sc]; exact blkOk_by hb) (fun s H C cl fp => ?_) (fun s H C cl fp => pts_nil) (fun s H C cl fp => x1 _ (g.gd.blk s H scope C cl fp)) (fun v => fold_plain hset v)
    exact tg_pg (g.gd.blk s H scope C cl fp) ht
  · simp only [evalE] at e
    obtain ⟨ds, e1, e⟩ := bind_split e
    obtain ⟨rr, e2, e⟩ := bind_split e
    cases e
    refine evComp own_snd r (i2 σ H env Ps ds r e1) (tg_ok (S := blkS S scope) ht) (tame_split e2) fun d o ho => ?_
    obtain ⟨env', h1, h2⟩ := bind_split ho
    obtain ⟨y, h3, h4⟩ := bind_split h2
    cases h4
    refine ⟨env', h1, fun σ' H' Ps' r' => ⟨true, fun H0 s0 Q q => q H0 (Same.refl _), fun _ => ⟨y, rfl, ?_⟩, fun z => nomatch z⟩⟩
    have := x2 σ' H' env' Ps' y r' h3
    have hl' : lv (blkS S scope).M elt = false := hl
    rw [hl'] at this
    exact this
theorem lc_compIf {i : Nat} {t : Tg} {it : IT} {c elt : IE} {x yc tg ie : Expr} {scope : Scope} {y : Str} {py p sp : Pos} (hi : OkI k defs K S it ie) (hc : OkB k defs K (blkS S scope) c yc) (hx : OkE k defs K (blkS S scope) elt x) (hset : noSet ie = true) (hb : blkC S.N S.sc scope (ownOf S t) = true) (ht : chkT (blkS S scope) t tg = true) (hl : lv S.M elt = false)
    (hy : S.N[i]? = some y) (yl : S.sc.names.lookup y = some .local) (ln : (py.line == p.line) = true) (na : (scope.names.any fun (n, k) => n == y && (k == .local || k == .cell)) = false) :
    ∃ te, (∀ X, GdS S k defs K X → PS X (.Assign [.Name y py] (.ListComp x [⟨tg, ie, [yc], 0⟩] scope p) sp) (tAsg te (gName i))) ∧ ∀ σ H env Ps d, EnvR K S.M H Ps σ env → evalE (callF defs k) (.compIf t it c elt) env = .ok d → EvD K te σ H Ps false d := by
  obtain ⟨wi, i1, i2⟩ := id hi
  obtain ⟨tt, c1, c2⟩ := id hc
  obtain ⟨te, x1, x2⟩ := id hx
  refine ⟨tLc wi (tgR K t) tt te ((ownOf S t).map (·.2)), fun X g => ?_, ?_⟩
  · have yl' : X.env.scope.names.lookup y = some .local := by rw [g.gd.sc]; exact yl
    refine ps_setLc g.gd.calm (by rw [g.gd.N]; exact g.gd.nd) (by rw [g.gd.N]; exact hy) yl' (sw_true (by rw [g.gd.sc]; exact g.kind) yl' ln na) (i1 X tg g.gd) (by rw [g.gd.N, g.gd.sc]; exact blkOk_by hb) (fun s H C cl fp => ?_) (fun s H C cl fp => pts_one (c1 _ (g.gd.blk s H scope C cl fp))) (fun s H C cl fp => x1 _ (g.gd.blk s H scope C cl fp)) (fun v => fold_plain hset v)
    exact tg_pg (g.gd.blk s H scope C cl fp) ht
  · intro σ H env Ps d r e
    simp only [evalE] at e
    obtain ⟨ds, e1, e⟩ := bind_split e
    obtain ⟨rr, e2, e⟩ := bind_split e
    cases e
    refine evComp own_snd r (i2 σ H env Ps ds r e1) (tg_ok (S := blkS S scope) ht) (tame_split e2) fun d o ho => ?_
    obtain ⟨env', h1, h2⟩ := bind_split ho
    obtain ⟨u, h3, h4⟩ := bind_split h2
    obtain ⟨b, h5, h6⟩ := bind_split h4
    refine ⟨env', h1, fun σ' H' Ps' r' => ⟨b, c2 σ' H' env' Ps' b r' (by rw [h3]; exact h5), fun hb => ?_, fun hb => ?_⟩⟩
    · subst hb
      obtain ⟨y, h7, h8⟩ := bind_split (show (evalE (callF defs k) elt env').bind (fun x => Res.ok (some x)) = .ok o from h6)
      cases h8
      refine ⟨y, rfl, ?_⟩
      have := x2 σ' H' env' Ps' y r' h7
      have hl' : lv (blkS S scope).M elt = false := hl
      rw [hl'] at this
      exact this
    · subst hb
      cases h6
      rfl
theorem nm_ok {i : Nat} {tg : Expr} (h : chkT S (.nm i) tg = true) : ∃ x p, tg = .Name x p ∧ S.N[i]? = some x ∧ S.M.contains i = false := by
  cases tg with
  | Name x p =>
    simp only [chkT, Bool.and_eq_true, Bool.not_eq_true'] at h
    have h1 := h.1
    unfold locB at h1
    simp only [Bool.and_eq_true, decide_eq_true_eq] at h1
    exact ⟨x, p, rfl, h1.1, h.2⟩
  | _ => simp [chkT] at h
/-- a comprehension to a name -/
theorem sound_lc {i : Nat} {ie : IE} {y : Str} {py sp : Pos} {e : Expr} (h : chkE S ie e = true) (hy : S.N[i]? = some y) (hm : S.M.contains i = false) (hsw : swB S y py e = true) : OkS k defs K S (.asg (.nm i) ie) (.Assign [.Name y py] e sp) := by
  obtain ⟨elt, gs, scope, p, rfl, s1, s2, s3⟩ := swB_ok hsw
  cases ie with
  | comp t it el =>
    unfold chkE at h
    split at h <;> first | (cases h; done) | skip
    rename_i heq
    cases heq
    simp only [Bool.and_eq_true, Bool.not_eq_true'] at h
    obtain ⟨⟨⟨⟨⟨⟨⟨h1, h2⟩, h3⟩, h4⟩, h5⟩, h6⟩, _⟩, _⟩ := h
    exact okS_asgLc (lc_comp (soundIT it S _ h1) (soundE el _ _ h5) h2 h3 h4 h6 hy s1 s2 s3) hm
  | compIf t it c el =>
    unfold chkE at h
    split at h <;> first | (cases h; done) | skip
    rename_i heq
    cases heq
    simp only [Bool.and_eq_true, Bool.not_eq_true'] at h
    obtain ⟨⟨⟨⟨⟨⟨⟨⟨h1, h2⟩, h3⟩, h4⟩, hc⟩, h5⟩, h6⟩, _⟩, _⟩ := h
    exact okS_asgLc (lc_compIf (soundIT it S _ h1) (soundB c _ _ hc) (soundE el _ _ h5) h2 h3 h4 h6 hy s1 s2 s3) hm
  | var _ => simp [chkE] at h
  | non => simp [chkE] at h
  | bl _ => simp [chkE] at h
  | int _ => simp [chkE] at h
  | str _ => simp [chkE] at h
  | glob _ _ => simp [chkE] at h
  | tup _ => simp [chkE] at h
  | lst _ => simp [chkE] at h
  | o1 op a => cases op <;> simp [chkE, sh1, unE, bcall] at h
  | o2 op a b => cases op <;> simp [chkE, sh2, cmpE, binE, ixE, methE1] at h
  | o3 _ _ _ _ => simp [chkE] at h
  | isi _ _ => simp [chkE, isiE] at h
  | and_ _ _ => simp [chkE, andE] at h
  | or_ _ _ => simp [chkE, andE] at h
  | ifE _ _ _ => simp [chkE] at h
  | chain _ _ _ _ _ => simp [chkE] at h
  | call _ _ => simp [chkE] at h
theorem tg_star {t : Tg} {tg : Expr} (h : chkT S t tg = true) : noStar tg = true := by
  cases tg <;> first | rfl | (cases t <;> simp [chkT] at h)
mutual
theorem soundS (hk : S.sc.kind = .function) : ∀ (is : IS) (st : Stmt), chkS S is st = true → OkS k defs K S is st
  | .pass, st, h => by
    unfold chkS at h
    split at h <;> first | (cases h; done) | skip
    exact okS_pass
  | .asg t e, st, h => by
    unfold chkS at h
    split at h <;> first | (cases h; done) | skip
    rename_i tg x p
    simp only [Bool.and_eq_true, Bool.not_eq_true', Bool.or_eq_true] at h
    obtain ⟨⟨⟨h1, h2⟩, h3⟩, h4⟩ := h
    rcases h4 with ⟨h4, h5⟩ | ⟨h4, h5⟩
    · refine okS_asg (soundE e S x h2) h1 h3 h4 (fun env => ?_) (tg_star h1)
      rcases h5 with h5 | h5
      · cases t with
        | nm i =>
          obtain ⟨y, py, rfl, _⟩ := nm_ok h1
          exact stores_name
        | tu _ => cases h5
      · exact stores_noTup h5
    · cases t with
      | nm i =>
        obtain ⟨y, py, rfl, hy, hm⟩ := nm_ok h1
        exact sound_lc h2 hy hm h5
      | tu _ => cases h4
  | .par i j a b, st, h => by
    unfold chkS at h
    split at h <;> first | (cases h; done) | skip
    simp only [Bool.and_eq_true, Bool.not_eq_true', decide_eq_true_eq] at h
    obtain ⟨⟨⟨⟨⟨⟨⟨⟨⟨⟨⟨⟨⟨⟨⟨⟨h1, h2⟩, h3⟩, h4⟩, h5⟩, h6⟩, h7⟩, h8⟩, h9⟩, h10⟩, h11⟩, h12⟩, h13⟩, h14⟩, h15⟩, h16⟩, h17⟩ := h
    exact okS_par (soundE a S _ h12) (soundE b S _ h13) h14 h15 h10 h11 h1 h2 h3 h4 h5 h6 h7 h8 h9 h16 h17 hk
  | .mset _ _, st, h => by simp [chkS] at h
  | .app _ _, st, h => by simp [chkS] at h
  | .ret e, st, h => by
    unfold chkS at h
    split at h <;> first | (cases h; done) | skip
    exact okS_ret (soundE e (dirty S) _ h)
  | .if_ c a b, st, h => by
    unfold chkS at h
    split at h <;> first | (cases h; done) | skip
    simp only [Bool.and_eq_true] at h
    exact okS_if (soundB c (dirty S) _ h.1.1) (soundSs hk a _ h.1.2) (soundSs hk b _ h.2)
  | .for_ t it body, st, h => by
    unfold chkS at h
    split at h <;> first | (cases h; done) | skip
    simp only [Bool.and_eq_true] at h
    exact okS_for (soundIT it S _ h.1.1.2) (soundSs hk body _ h.2) h.1.1.1 h.1.2
theorem soundSs (hk : S.sc.kind = .function) : ∀ (is : ISs) (st : List Stmt), chkSs S is st = true → OkSs k defs K S is st
  | .nil, [], _ => okSs_nil
  | .nil, _ :: _, h => by simp [chkSs] at h
  | .cons _ _, [], h => by simp [chkSs] at h
  | .cons a as, s :: ss, h => by
    simp only [chkSs, Bool.and_eq_true] at h
    exact okSs_cons (soundS hk a s h.1) (soundSs hk as ss h.2)
end
end

/-! ### how arguments come to plain parameters -/
theorem fm_congr {α β : Type} {f g : α → Option β} : ∀ {l : List α}, (∀ x ∈ l, f x = g x) → l.filterMap f = l.filterMap g
  | [], _ => rfl
  | a :: l, h => by rw [List.filterMap_cons, List.filterMap_cons, h a (by simp), fm_congr fun x hx => h x (List.mem_cons_of_mem _ hx)]
theorem look_zip : ∀ (ps : List Str) (us : List Value), us.length = ps.length → ∀ n ∈ ps, ((ps.zip us).lookup n).isNone = false
  | [], _, _, n, h => by simp at h
  | p :: ps, [], h, n, _ => by simp at h
  | p :: ps, u :: us, h, n, hn => by
    rw [List.zip_cons_cons, List.lookup_cons]
    by_cases e : n == p
    · simp [e]
    · simp only [e]
      refine look_zip ps us (by simpa using h) n ?_
      rcases List.mem_cons.mp hn with z | z
      · subst z; simp at e
      · exact z
theorem zip_look : ∀ (ps : List Str) (us : List Value), ps.Nodup → us.length = ps.length → ps.filterMap (fun n => ((ps.zip us).lookup n).map (n, ·)) = ps.zip us
  | [], _, _, _ => by simp
  | p :: ps, [], _, h => by simp at h
  | p :: ps, u :: us, nd, h => by
    have nd' := List.nodup_cons.mp nd
    have ih := zip_look ps us nd'.2 (by simpa using h)
    rw [List.zip_cons_cons, List.filterMap_cons]
    simp only [List.lookup_cons, beq_self_eq_true, Option.map_some]
    congr 1
    refine Eq.trans (fm_congr fun n hn => ?_) ih
    have : (n == p) = false := by
      rw [beq_eq_false_iff_ne]
      intro z; subst z; exact nd'.1 hn
    simp only [this]
def plainArgs : Arguments → Option (List Str)
  | ⟨[], args, none, [], [], none, []⟩ => some (args.map (·.arg))
  | _ => none
theorem bind_plain {x qual : Str} {body : List Stmt} {scope : Scope} {kV doc pm : Value} {an : Option Addr} {cdv ct : Value} {args : Arguments} {ps : List Str} (us : List Value) (ha : plainArgs args = some ps) (nd : ps.Nodup) (hl : us.length = ps.length) :
    bindArgs (PySem.W.fnOf x qual args body scope .none kV doc pm an cdv ct) ⟨us, []⟩ = pure (ps.zip us) := by
  unfold plainArgs at ha
  split at ha <;> first | (cases ha; done) | skip
  rename_i args
  have hps := Option.some.inj ha
  have hm : ps.filter (fun n => ((ps.zip us).lookup n).isNone) = [] := by
    rw [List.filter_eq_nil_iff]
    intro n hn
    rw [look_zip _ us hl n hn]
    simp
  have hf : ps.filterMap (fun n => ((ps.zip us).lookup n).map (n, ·)) = ps.zip us := zip_look ps us nd hl
  have hd : seqItems? Value.none = pure Option.none := rfl
  have hg : ¬ us.length > ps.length := by omega
  have pb : ∀ {α β : Type} (a : α) (f : α → Sem β), (pure a >>= f : Sem β) = f a := fun _ _ => rfl
  unfold bindArgs
  dsimp only [PySem.W.fnOf]
  rw [hps]
  simp only [List.map_nil, List.nil_append, List.forIn_nil, hd, Option.getD_none, List.length_nil, List.drop_nil, Nat.sub_zero, Nat.zero_sub, List.take_length, List.drop_length, List.zip_nil_right, hm, List.isEmpty_nil, Bool.not_true, List.append_nil, hf]
  simp only [pb, hg, decide_false, Bool.false_and, Option.getD_none, List.length_nil, List.drop_nil, Nat.sub_zero, Nat.zero_sub, List.take_length, List.drop_length, List.zip_nil_right, hm, List.isEmpty_nil, Bool.not_true, List.append_nil, hf, List.forIn_nil, if_false, Bool.false_eq_true]

/-! ### one def of ours, and its image -/
structure PF where
  f : Nat
  i : Nat
  x : Str
  N : List Str
  ps : List Str
  M : List Nat
def Sx.of (fnm : Nat → Option (Str × Nat)) (p : PF) (sc : Scope) : Sx := { N := p.N, sc := sc, M := p.M, fnm := fnm, gl := [], fnc := fun _ => true }
def isFun : ScopeKind → Bool
  | .function => true
  | _ => false
def scopeB (N ps : List Str) (sc : Scope) : Bool := isFun sc.kind && !sc.isCoroutine && !sc.isGenerator && decide N.Nodup && decide (N.take ps.length = ps) && ps.all (fun x => locK true (sc.names.lookup x)) && sc.names.all fun y => match y.2 with | .free => false | _ => true
theorem scope_ok {N ps : List Str} {sc : Scope} (h : scopeB N ps sc = true) : FnScope N ps sc := by
  unfold scopeB at h
  simp only [Bool.and_eq_true, decide_eq_true_eq, Bool.not_eq_true', List.all_eq_true] at h
  obtain ⟨⟨⟨⟨⟨⟨h1, h2⟩, h3⟩, h4⟩, h5⟩, h6⟩, h7⟩ := h
  refine ⟨?_, h2, h3, h4, h5, fun x hx => ?_, fun y hy e => ?_⟩
  · cases q : sc.kind with
    | function => rfl
    | _ => rw [q] at h1; cases h1
  · have := h6 x hx
    cases q : sc.names.lookup x with
    | none => rw [q] at this; cases this
    | some kd => cases kd <;> first | (rw [q] at this; cases this; done) | simp
  · have := h7 y hy
    rw [e] at this
    cases this
/-- the def's text and its image -/
def chkF (fnm : Nat → Option (Str × Nat)) (defs : Nat → Option FDef) (p : PF) (st : Stmt) : Bool :=
  (match defs p.f with
    | some fd => decide (fd.n = p.N.length) && decide (fd.arity = p.ps.length) && chkSs (Sx.of fnm p (defScope st)) fd.body (defBody st)
    | none => false) &&
  decide (fnm p.f = some (p.x, p.ps.length)) && scopeB p.N p.ps (defScope st) && p.M.all (fun i => decide (p.ps.length ≤ i)) && decide (plainArgs (defArgs st) = some p.ps) && decide p.ps.Nodup
/-- all that the program's top has left -/
structure Top (P : Program) (w : World) (K : PySem.W.Frag) (mg : Str → Option Value) (base : Heap) (fnm : Nat → Option (Str × Nat)) (defs : Nat → Option FDef) (L : List PF) (top : Nat → Stmt) : Prop where
  free : ∀ x ∈ freeNames, mg x = none
  chk : ∀ p ∈ L, chkF fnm defs p (top p.i) = true
  all : ∀ f x ar, fnm f = some (x, ar) → ∃ p ∈ L, p.f = f
  there : ∀ p ∈ L, ∃ a fd, mg p.x = some (.ref a) ∧ FunD K p.x p.x (defArgs (top p.i)) (defBody (top p.i)) (defScope (top p.i)) [] [] a fd
section
variable {P : Program} {w : World} {K : PySem.W.Frag} {mg : Str → Option Value} {base : Heap} {fnm : Nat → Option (Str × Nat)} {defs : Nat → Option FDef} {L : List PF} {top : Nat → Stmt}
/-- the slots at the entry -/
theorem start_env {M : List Nat} {H : Hp} {Ps : List Addr} {N ps : List Str} {vs : List V} {ds : List D} (r : RpAll K (hide H Ps) vs ds) (hl : ds.length = ps.length) (hm : ∀ i ∈ M, ps.length ≤ i) (hN : ps.length ≤ N.length) (dom : ∀ q ∈ Ps, H q ≠ none) : EnvR K M H Ps (L2.start N vs) (ds.map some ++ List.replicate (N.length - ds.length) none) where
  get := fun i d e => by
    have hi : i < ds.length := by
      by_cases hi : i < ds.length
      · exact hi
      · rw [List.getElem?_append_right (by simp; omega), List.getElem?_replicate] at e
        split at e <;> cases e
    rw [List.getElem?_append_left (by simpa using hi), List.getElem?_map] at e
    cases q : ds[i]? with
    | none => rw [q] at e; cases e
    | some d' =>
      rw [q] at e
      cases e
      obtain ⟨v, h1, h2⟩ := r.getD q
      refine ⟨v, ?_, .of h2, fun z => ?_⟩
      · unfold L2.start
        rw [List.getElem?_append_left (by rw [List.length_map, r.length]; exact hi), List.getElem?_map, h1]
        rfl
      · have := hm i (List.contains_iff_mem.mp z)
        omega
  inj := fun i j p d e hi hj hij h1 h2 h3 h4 => by
    have := hm i (List.contains_iff_mem.mp hi)
    rw [List.getElem?_append_right (by simp; omega), List.getElem?_replicate] at h1
    split at h1 <;> cases h1
  dom := dom
  len := by
    unfold L2.start
    simp [r.length]
theorem fns_ok (T : Top P w K mg base fnm defs L top) : ∀ (k : Nat) (p : PF), p ∈ L → ∀ a fd, mg p.x = some (.ref a) → FunD K p.x p.x (defArgs (top p.i)) (defBody (top p.i)) (defScope (top p.i)) [] [] a fd → FnOk P w K mg base (L2.CX P w) k a fd p.ps (spF K p.ps.length (callF defs k p.f))
  | 0, p, hp, a, fd, hm, F => by
    have no : ∀ vs H Q E, ¬ spF K p.ps.length (callF defs 0 p.f) vs H Q E := fun vs H Q E h => by
      obtain ⟨_, ds, Ps, d, _, _, e, _⟩ := h
      cases e
    exact ⟨fun vs H Q E h => absurd h (no vs H Q E), fun A outer s H args us vs Q E _ _ _ _ h => absurd h (no vs H Q E)⟩
  | k + 1, p, hp, a, fd, hm, F => by
    have hc := T.chk p hp
    unfold chkF at hc
    simp only [Bool.and_eq_true, decide_eq_true_eq, List.all_eq_true] at hc
    obtain ⟨⟨⟨⟨⟨c1, c2⟩, c3⟩, c4⟩, c5⟩, c6⟩ := hc
    cases hd : defs p.f with
    | none => rw [hd] at c1; cases c1
    | some fdef =>
      rw [hd] at c1
      simp only [Bool.and_eq_true, decide_eq_true_eq] at c1
      obtain ⟨⟨n1, n2⟩, n3⟩ := c1
      have SC := scope_ok c3
      refine F.ok SC (fun vs H Q E h => h.1) fun cdv A outer s H vs Q E hr h => ?_
      obtain ⟨hlen, ds, Ps, d, rv, dom, e, q⟩ := h
      have kk : (Sx.of fnm p (defScope (top p.i))).sc.kind = .function := SC.kind
      obtain ⟨t, t1, t2⟩ := soundSs (k := k) (defs := defs) (K := K) kk fdef.body (defBody (top p.i)) n3
      have g : Gd (Sx.of fnm p (defScope (top p.i))) k defs K (cxOf (L2.CX P w) P w K mg base p.N p.x (defScope (top p.i)) a cdv A outer s H E) := {
        hK := rfl
        N := rfl
        nd := SC.nd
        sc := rfl
        calm := rfl
        room := hr
        fn := rfl
        free := T.free
        fns := fun f x ar hf => by
          obtain ⟨p', hp', rfl⟩ := T.all f x ar hf
          have hc' := T.chk p' hp'
          unfold chkF at hc'
          simp only [Bool.and_eq_true, decide_eq_true_eq, List.all_eq_true] at hc'
          obtain ⟨⟨⟨⟨⟨_, d2⟩, _⟩, _⟩, d5⟩, d6⟩ := hc'
          have hf' : fnm p'.f = some (x, ar) := hf
          rw [d2] at hf'
          cases hf'
          obtain ⟨a', fd', m', F'⟩ := T.there p' hp'
          exact ⟨a', fd', p'.ps, m', F'.kp, F'.bindsN fun _ _ _ _ _ _ us hl => bind_plain us d5 d6 hl, fns_ok T k p' hp' a' fd' m' F'⟩ }
      refine ⟨t, t1 _ ⟨g, passes_of rfl, kk⟩, ?_⟩
      have hds : ds.length = p.ps.length := by rw [← rv.length, hlen]
      have hpn : p.ps.length ≤ p.N.length := by
        have := SC.pre
        have h2 := congrArg List.length this
        rw [List.length_take] at h2
        omega
      have e' : runF (callF defs k) fdef ds = .ok d := by
        have : callF defs (k + 1) p.f ds = runF (callF defs k) fdef ds := by simp only [callF, hd]
        rw [← this]; exact e
      unfold runF at e'
      rw [if_pos (by rw [n2]; exact hds)] at e'
      obtain ⟨fl, e1, e2⟩ := bind_split e'
      have r0 : SR K p.M H Ps H [] (L2.start p.N vs) (ds.map some ++ List.replicate (fdef.n - ds.length) none) := {
        er := by rw [n1]; exact start_env rv hds (fun i hi => c4 i hi) hpn dom
        ent := Same.refl _
        fr := fun p hp => nomatch hp
        odom := dom
        own := fun i d' hi he => by
          have hi' := c4 i (List.contains_iff_mem.mp hi)
          rw [List.getElem?_append_right (by simp; omega), List.getElem?_replicate] at he
          split at he <;> cases he }
      refine t2 H Ps (L2.start p.N vs) H _ [] fl r0 e1 _ ?_
      cases fl with
      | next env' =>
        cases e2
        exact fun σ' H' Ps' _ r' => q _ H' r'.ent .non
      | ret x =>
        cases e2
        exact fun v H' s' rv' => q v H' s' rv'
end
end Tq

/-! Tq, part N: a law's end. -/
namespace Tq
open PySem L2 Res
/-- the level at which the law is called -/
abbrev deep : Nat := 200
theorem room_law : Room deep callerA := ⟨rfl, by decide, by decide⟩
def defD (top : Nat → Stmt) (p : PF) : He.DefD := ⟨(p.x, none), p.x, p.x, defArgs (top p.i), defBody (top p.i), defScope (top p.i), [], []⟩
def faOf (L : List PF) : List He.Fa := freeNames.map He.Fa.free ++ L.map fun p => He.Fa.glo p.x
section
variable {K : PySem.W.Frag} {h : Heap} {mg : Str → Option Value} {top : Nat → Stmt} {L : List PF} {fn : List He.DefD}
theorem mem_at {α : Type} {l : List α} {a : α} (h : a ∈ l) : ∃ i : Nat, l[i]? = some a := List.mem_iff_getElem?.mp h
theorem top_of {P : Program} {w : World} {base : Heap} {fnm : Nat → Option (Str × Nat)} {defs : Nat → Option FDef} (KX : K.In h) (G : h.Ns mainGlobals mg) (c : He.SaysD (faOf L) (L.map (defD top)) K)
    (chk : ∀ p ∈ L, chkF fnm defs p (top p.i) = true) (all : ∀ f x ar, fnm f = some (x, ar) → ∃ p ∈ L, p.f = f) : Top P w K mg base fnm defs L top where
  free := fun x hx => by
    obtain ⟨i, hi⟩ := mem_at (show He.Fa.free x ∈ faOf L from List.mem_append_left _ (List.mem_map.mpr ⟨x, hx, rfl⟩))
    exact He.free_ok KX G (c.fact i hi)
  chk := chk
  all := all
  there := fun p hp => by
    obtain ⟨i, hi⟩ := mem_at (show He.Fa.glo p.x ∈ faOf L from List.mem_append_right _ (List.mem_map.mpr ⟨p, hp, rfl⟩))
    obtain ⟨j, hj⟩ := mem_at (show defD top p ∈ L.map (defD top) from List.mem_map.mpr ⟨p, hp, rfl⟩)
    obtain ⟨fd, F⟩ := c.def_ j hj
    exact ⟨_, fd, He.glo_ok KX G (c.fact i hi), F⟩
end
theorem walk_tq {l : PySem.W.OpenLaw} {q : Program} {loose : List Str} {XP : (Str → Option Value) → Heap → Prop} {d : DefRec} {top : Nat → Stmt} {L : List PF} {fnm : Nat → Option (Str × Nat)} {defs : Nat → Option FDef}
    (hn : l.most = some 63) (hdf : d.params.defaults = []) (p : PF) (hp : p ∈ L) (hx : d.name = p.x) (hps : p.ps = [("script" : Str)])
    (chk : ∀ p ∈ L, chkF fnm defs p (top p.i) = true) (all : ∀ f x ar, fnm f = some (x, ar) → ∃ p ∈ L, p.f = f)
    (res : ∀ ns : List Int, ns.length ≤ 63 → callF defs deep p.f [scrD (ns.map PyData.int)] = .ok (.bool true)) :
    PySem.W.WalkO q loose XP (He.hookD 4 (faOf L) (L.map (defD top))).says l.row.toRowW d [] (fun f vs => PySem.call f vs) := by
  refine Att.attach_call hn hdf fun w s₀ s₁ mg mb fa o pm cd doc a vs ns G Y ho hd hcd hmg hobj hints hlen hg => ?_
  obtain ⟨K, KX, c⟩ := Y
  have T : ∀ base : Heap, Top l.prog w K mg base fnm defs L top := fun base => top_of KX G.T.g c chk all
  obtain ⟨a', fd, m', F⟩ := (T s₁.heap).there p hp
  rw [hx, m'] at hmg
  cases hmg
  have hc := chk p hp
  unfold chkF at hc
  simp only [Bool.and_eq_true, decide_eq_true_eq, List.all_eq_true] at hc
  obtain ⟨⟨⟨⟨⟨_, _⟩, _⟩, _⟩, d5⟩, d6⟩ := hc
  refine law_call (CX := L2.CX l.prog w) (x := "script") (fd := fd) (sp := spF K 1 (callF defs deep p.f)) KX G.T.g G.T.b G.T.builtins G.T.nolimit hg hobj hints (Nat.le_trans hlen (by decide)) room_law (fun base _ _ => ?_) (fun s u => ?_) (fun H hO hS => ?_) fun H e s' z => ?_
  · have := fns_ok (T base) deep p hp _ fd m' F
    rw [hps] at this
    exact this
  · have := F.bindsA (ps := p.ps) (fun _ _ _ _ _ _ us hl => bind_plain us d5 d6 hl) s [u] (by rw [hps]; rfl)
    rw [hps] at this
    exact this
  · refine ⟨rfl, [scrD (ns.map PyData.int)], [], .bool true, .cons (.scr (xs := ns.map V.int) (by rw [hide_nil]; exact hS) ?_ ?_) .nil, fun _ hq => by simp at hq, res ns hlen, fun v H' _ rv => ?_⟩
    · have : ∀ ms : List Int, RpAll K (hide H []) (ms.map V.int) (ms.map PyData.int) := fun ms => by
        induction ms with
        | nil => exact .nil
        | cons m ms ih => exact .cons (.int m) ih
      exact this ns
    · rw [List.length_map]
      exact Nat.le_trans hlen (by decide)
    · cases rv
      rfl
  · obtain ⟨_, _, _, _, _, _, _, _, _, _, _, _, zz⟩ := z
    exact zz
end Tq

/-! Tq, part P: small rules for reckoning with images. -/
namespace Tq
open PySem L2 Res
section
variable {ρ : Nat → List D → Res D}
@[simp] theorem put_nm (i : Nat) (d : D) (env : En) : (Tg.nm i).put d env = .ok (env.set i (some d)) := by simp only [Tg.put]
@[simp] theorem put_tu (ts : Tgs) (ds : List D) (env : En) : (Tg.tu ts).put (.tuple ds) env = ts.put ds env := by simp only [Tg.put]
@[simp] theorem puts_nil (env : En) : Tgs.nil.put [] env = .ok env := by simp only [Tgs.put]
@[simp] theorem puts_cons (t : Tg) (ts : Tgs) (d : D) (ds : List D) (env : En) : (Tgs.cons t ts).put (d :: ds) env = (t.put d env).bind fun e => ts.put ds e := by simp only [Tgs.put]
@[simp] theorem truth_bool (b : Bool) : truth (.bool b) = .ok b := rfl
@[simp] theorem truth_none : truth .none = .ok false := rfl
@[simp] theorem truth_int (i : Int) : truth (.int i) = .ok (i != 0) := rfl
@[simp] theorem truth_list (l : List D) : truth (.list l) = .ok (!l.isEmpty) := rfl
@[simp] theorem truth_tuple (l : List D) : truth (.tuple l) = .ok (!l.isEmpty) := rfl
@[simp] theorem truth_str (x : Str) : truth (.str x) = .ok (x.length != 0) := rfl
@[simp] theorem o2_add_i (i j : Int) : op2 .add (.int i) (.int j) = .ok (.int (i + j)) := rfl
@[simp] theorem o2_sub_i (i j : Int) : op2 .sub (.int i) (.int j) = .ok (.int (i - j)) := rfl
@[simp] theorem o2_lt_i (i j : Int) : op2 .lt (.int i) (.int j) = .ok (.bool (decide (i < j))) := rfl
@[simp] theorem o2_le_i (i j : Int) : op2 .le (.int i) (.int j) = .ok (.bool (decide (i ≤ j))) := rfl
@[simp] theorem o2_gt_i (i j : Int) : op2 .gt (.int i) (.int j) = .ok (.bool (decide (j < i))) := rfl
@[simp] theorem o2_ge_i (i j : Int) : op2 .ge (.int i) (.int j) = .ok (.bool (decide (j ≤ i))) := rfl
theorem o2_mul {i j : Int} (h : mulOk i j = true) : op2 .mul (.int i) (.int j) = .ok (.int (i * j)) := by
  show (if mulOk i j then Res.ok (PyData.int (i * j)) else .bad) = _
  rw [if_pos h]
theorem o2_mod {i j : Int} (h : 0 < j) : op2 .mod (.int i) (.int j) = .ok (.int (i % j)) := by
  show (if decide (0 < j) then Res.ok (PyData.int (i % j)) else .bad) = _
  rw [if_pos (decide_eq_true h)]
theorem mulOk_l {i j : Int} (h : -1000000 < i) (h' : i < 1000000) : mulOk i j = true := decide_eq_true (.inl ⟨by omega, by omega⟩)
theorem mulOk_r {i j : Int} (h : -1000000 < j) (h' : j < 1000000) : mulOk i j = true := decide_eq_true (.inr ⟨by omega, by omega⟩)
@[simp] theorem o2_is_n (d : D) : op2 .is d .none = .ok (.bool (isNone d)) := rfl
@[simp] theorem o2_is_b (d : D) (b : Bool) : op2 .is d (.bool b) = .ok (.bool (isBool b d)) := rfl
@[simp] theorem o2_isnot_n (d : D) : op2 .isnot d .none = .ok (.bool (!isNone d)) := rfl
@[simp] theorem o2_isnot_b (d : D) (b : Bool) : op2 .isnot d (.bool b) = .ok (.bool (!isBool b d)) := rfl
@[simp] theorem isBool_b (b c : Bool) : isBool b (.bool c) = (c == b) := rfl
@[simp] theorem isNone_n : isNone .none = true := rfl
@[simp] theorem isNone_b (b : Bool) : isNone (.bool b) = false := rfl
@[simp] theorem isNone_i (i : Int) : isNone (.int i) = false := rfl
@[simp] theorem isNone_s (x : Str) : isNone (.str x) = false := rfl
@[simp] theorem isNone_t (l : List D) : isNone (.tuple l) = false := rfl
@[simp] theorem isNone_l (l : List D) : isNone (.list l) = false := rfl
theorem min0 (n : Nat) : decide (min 0 n ≤ 60) = true := by simp
theorem eqOk_l {a b : D} (h : a.depth = 0) (ha : noDict a = true) (hb : noDict b = true) : eqOk a b = true := by
  unfold eqOk; rw [ha, hb, h]; simp
theorem eqOk_r {a b : D} (h : b.depth = 0) (ha : noDict a = true) (hb : noDict b = true) : eqOk a b = true := by
  unfold eqOk; rw [ha, hb, h]; simp
theorem o2_eq {a b : D} (h : eqOk a b = true) : op2 .eq a b = .ok (.bool (PyData.eqv a b)) := by
  show (if eqOk a b then Res.ok (PyData.bool (PyData.eqv a b)) else .bad) = _
  rw [if_pos h]
theorem o2_ne {a b : D} (h : eqOk a b = true) : op2 .ne a b = .ok (.bool (!PyData.eqv a b)) := by
  show (if eqOk a b then Res.ok (PyData.bool (!PyData.eqv a b)) else .bad) = _
  rw [if_pos h]
@[simp] theorem o2_eq_i (i j : Int) : op2 .eq (.int i) (.int j) = .ok (.bool (i == j)) := by
  rw [o2_eq (eqOk_l (by simp [PyData.depth]) (by simp [noDict]) (by simp [noDict]))]; simp [PyData.eqv]
@[simp] theorem o2_eq_s (x y : Str) : op2 .eq (.str x) (.str y) = .ok (.bool (x == y)) := by
  rw [o2_eq (eqOk_l (by simp [PyData.depth]) (by simp [noDict]) (by simp [noDict]))]; simp [PyData.eqv]
@[simp] theorem o2_eq_ns (y : Str) : op2 .eq .none (.str y) = .ok (.bool false) := by
  rw [o2_eq (eqOk_l (by simp [PyData.depth]) (by simp [noDict]) (by simp [noDict]))]; simp [PyData.eqv]
@[simp] theorem o2_eq_b (x y : Bool) : op2 .eq (.bool x) (.bool y) = .ok (.bool (x == y)) := by
  rw [o2_eq (eqOk_l (by simp [PyData.depth]) (by simp [noDict]) (by simp [noDict]))]; simp [PyData.eqv]
@[simp] theorem o2_ne_b (x y : Bool) : op2 .ne (.bool x) (.bool y) = .ok (.bool (!(x == y))) := by
  rw [o2_ne (eqOk_l (by simp [PyData.depth]) (by simp [noDict]) (by simp [noDict]))]; simp [PyData.eqv]
theorem o2_idx_t {xs : List D} {i : Int} {d : D} (h : L2.atI xs i = some d) : op2 .idx (.tuple xs) (.int i) = .ok d := by
  show (match L2.atI xs i with | some d => Res.ok d | none => .bad) = _
  rw [h]
theorem o2_idx_s {x : Str} {i : Int} {c : Nat} (h : L2.atI x.cps.toList i = some c) : op2 .idx (.str x) (.int i) = .ok (.str ⟨#[c]⟩) := by
  show (match L2.atI x.cps.toList i with | some c => Res.ok (PyData.str ⟨#[c]⟩) | none => .bad) = _
  rw [h]
theorem o2_idx_scr {xs : List D} {i : Int} {d : D} (h : L2.atI xs i = some d) : op2 .idx (scrD xs) (.int i) = .ok d := by
  show (match L2.atI xs i with | some d => Res.ok d | none => .bad) = _
  rw [h]
@[simp] theorem o2_idx_t0 (a : D) (l : List D) : op2 .idx (.tuple (a :: l)) (.int 0) = .ok a := o2_idx_t (atI_nat (j := 0) rfl)
@[simp] theorem o2_idx_t1 (a b : D) (l : List D) : op2 .idx (.tuple (a :: b :: l)) (.int 1) = .ok b := o2_idx_t (atI_nat (j := 1) rfl)
@[simp] theorem o1_len_scr (xs : List D) : op1 .len (scrD xs) = .ok (.int xs.length) := rfl
@[simp] theorem o1_len_t (xs : List D) : op1 .len (.tuple xs) = .ok (.int xs.length) := rfl
@[simp] theorem o1_len_l (xs : List D) : op1 .len (.list xs) = .ok (.int xs.length) := rfl
@[simp] theorem o1_len_s (x : Str) : op1 .len (.str x) = .ok (.int x.length) := rfl
@[simp] theorem o1_not_b (b : Bool) : op1 .not (.bool b) = .ok (.bool (!b)) := rfl
theorem atI_in {α : Type} {xs : List α} {i : Int} (h0 : 0 ≤ i) (h1 : i < xs.length) : ∃ x, x ∈ xs ∧ L2.atI xs i = some x ∧ xs[i.toNat]? = some x := by
  have hi : i.toNat < xs.length := by omega
  refine ⟨xs[i.toNat], List.getElem_mem hi, ?_, by simp⟩
  have e : ((i.toNat : Nat) : Int) = i := by omega
  have := atI_nat (xs := xs) (j := i.toNat) (v := xs[i.toNat]) (by simp [hi])
  rw [e] at this
  exact this
/-- each item by a function -/
theorem eachD_map {f : D → Res (Option D)} {g : D → D} : ∀ {ds : List D}, (∀ d ∈ ds, f d = .ok (some (g d))) → eachD f ds = .ok (ds.map g)
  | [], _ => rfl
  | d :: ds, h => by
    simp only [eachD, h d (by simp), bind_ok, eachD_map fun x hx => h x (List.mem_cons_of_mem _ hx), List.map_cons]
theorem comp_nm {ρ : Nat → List D → Res D} {i : Nat} {it : IT} {elt : IE} {env : En} {ds : List D} {g : D → D} (hi : evalIT ρ it env = .ok ds) (h : ∀ d ∈ ds, evalE ρ elt (env.set i (some d)) = .ok (g d)) : evalE ρ (.comp (.nm i) it elt) env = .ok (.list (ds.map g)) := by
  simp only [evalE, hi, bind_ok, put_nm]
  rw [eachD_map (g := g) fun d hd => by rw [h d hd]; rfl]
  rfl
/-- a loop by what holds between its turns -/
theorem forD_inv {f : D → En → Res Fl} (P : En → Prop) : ∀ {ds : List D} {env : En}, (∀ d ∈ ds, ∀ env, P env → ∃ e, f d env = .ok (.next e) ∧ P e) → P env → ∃ e, forD f ds env = .ok (.next e) ∧ P e
  | [], env, _, p => ⟨env, rfl, p⟩
  | d :: ds, env, h, p => by
    obtain ⟨e, e1, p1⟩ := h d (by simp) env p
    obtain ⟨e', e2, p2⟩ := forD_inv P (fun x hx => h x (List.mem_cons_of_mem _ hx)) p1
    exact ⟨e', by simp only [forD, e1, bind_ok, Fl.go_next, e2], p2⟩
theorem mem_range : ∀ {n : Nat} {lo : Int} {d : D}, d ∈ rangeD lo n → ∃ k : Int, d = .int k ∧ lo ≤ k ∧ k < lo + n
  | 0, _, _, h => by simp [rangeD] at h
  | n + 1, lo, d, h => by
    simp only [rangeD, List.mem_cons] at h
    rcases h with rfl | h
    · exact ⟨lo, rfl, by omega, by omega⟩
    · obtain ⟨k, h1, h2, h3⟩ := mem_range (n := n) (lo := lo + 1) h
      exact ⟨k, h1, by omega, by push_cast; omega⟩
theorem rng1_ok {n : Int} (h : 0 ≤ n) (h' : n ≤ 1000000) : rng1D (.int n) = .ok (rangeD 0 n.toNat) := by
  show (if decide (-(2 ^ 62) ≤ n ∧ n ≤ (sizeLine : Int)) then Res.ok (rangeD 0 n.toNat) else .bad) = _
  rw [if_pos (decide_eq_true ⟨by omega, by rw [sizeLine_eq]; omega⟩)]
end
end Tq

namespace Tq
open PySem L2 Res
instance : Inhabited PF := ⟨⟨0, 0, Str.empty, [], [], []⟩⟩
def w_text : Str := ⟨#[116, 101, 120, 116]⟩
def w_whole : Str := ⟨#[119, 104, 111, 108, 101]⟩
def w_truth : Str := ⟨#[116, 114, 117, 116, 104]⟩
def s_e : Str := ⟨#[]⟩
def w_B : Str := ⟨#[66]⟩
def w_ab : Str := ⟨#[97, 98]⟩
def w_b : Str := ⟨#[98]⟩
def w_a : Str := ⟨#[97]⟩
def s_32_33_34_35_36_38_39_40_41_42_43_44_l94 : Str := ⟨#[32, 33, 34, 35, 36, 38, 39, 40, 41, 42, 43, 44, 45, 46, 47, 48, 49, 50, 51, 52, 53, 54, 55, 56, 57, 58, 59, 60, 61, 62, 63, 64, 65, 66, 67, 68, 69, 70, 71, 72, 73, 74, 75, 76, 77, 78, 79, 80, 81, 82, 83, 84, 85, 86, 87, 88, 89, 90, 91, 92, 93, 94, 95, 96, 97, 98, 99, 100, 101, 102, 103, 104, 105, 106, 107, 108, 109, 110, 111, 112, 113, 114, 115, 116, 117, 118, 119, 120, 121, 122, 123, 124, 125, 126]⟩
def w_1 : Str := ⟨#[49]⟩
namespace F
abbrev sort_of : Nat := 0
abbrev is_of : Nat := 1
abbrev law_cell : Nat := 2
abbrev law_mix : Nat := 3
abbrev law_text : Nat := 4
abbrev law_value : Nat := 5
abbrev law_kind : Nat := 6
abbrev law : Nat := 7
end F
def f_sort_of : FDef := { n := 1, arity := 1, body :=
  (.cons (.if_ (.isi (.var 0) .bool) (.cons (.ret (.str w_truth)) .nil) .nil) (.cons (.if_ (.isi (.var 0) .int) (.cons (.ret (.str w_whole)) .nil) .nil) (.cons (.if_ (.isi (.var 0) .str) (.cons (.ret (.str w_text)) .nil) .nil) (.cons (.ret .non) .nil)))) }
def f_is_of : FDef := { n := 2, arity := 2, body :=
  (.cons (.if_ (.o2 .is (.var 0) .non) (.cons (.ret (.o2 .idx (.var 1) (.int 1))) .nil) .nil) (.cons (.ret (.o2 .eq (.call F.sort_of (.cons (.var 0) .nil)) (.o2 .idx (.var 1) (.int 0)))) .nil)) }
def f_law_cell : FDef := { n := 2, arity := 2, body :=
  (.cons (.if_ (.o2 .lt (.var 1) (.o1 .len (.var 0))) (.cons (.ret (.o2 .idx (.var 0) (.var 1))) .nil) .nil) (.cons (.ret (.int 0)) .nil)) }
def f_law_mix : FDef := { n := 4, arity := 3, body :=
  (.cons (.asg (.nm 3) (.o2 .mod (.o2 .mul (.var 0) (.int 48271)) (.var 1))) (.cons (.ret (.o2 .mod (.o2 .mod (.o2 .mul (.var 3) (.o2 .add (.var 3) (.int 7))) (.var 1)) (.var 2))) .nil)) }
def c_law_text_0 : IE := .comp (.nm 2) (.rng1 (.call F.law_mix (.cons (.var 0) (.cons (.int 9949) (.cons (.int 5) .nil))))) (.o2 .idx (.var 1) (.call F.law_mix (.cons (.o2 .add (.var 0) (.o2 .mul (.int 7) (.var 2))) (.cons (.int 9967) (.cons (.o1 .len (.var 1)) .nil)))))
def f_law_text : FDef := { n := 3, arity := 1, body :=
  (.cons (.asg (.nm 1) (.str s_32_33_34_35_36_38_39_40_41_42_43_44_l94)) (.cons (.if_ (.o2 .eq (.o2 .mod (.var 0) (.int 3)) (.int 0)) (.cons (.ret (.o2 .idx (.tup (.cons (.str s_e) (.cons (.str w_a) (.cons (.str w_b) (.cons (.str w_ab) (.cons (.str w_B) .nil)))))) (.call F.law_mix (.cons (.var 0) (.cons (.int 9973) (.cons (.int 5) .nil)))))) .nil) .nil) (.cons (.ret (.o2 .join (.str s_e) c_law_text_0)) .nil))) }
def f_law_value : FDef := { n := 4, arity := 2, body :=
  (.cons (.asg (.tu (.cons (.nm 2) (.cons (.nm 3) .nil))) (.var 1)) (.cons (.if_ (.and_ (.var 3) (.o2 .eq (.call F.law_mix (.cons (.var 0) (.cons (.int 9941) (.cons (.int 3) .nil)))) (.int 0))) (.cons (.ret .non) .nil) .nil) (.cons (.if_ (.o2 .eq (.var 2) (.str w_whole)) (.cons (.ret (.o2 .sub (.call F.law_mix (.cons (.var 0) (.cons (.int 9931) (.cons (.int 7) .nil)))) (.int 3))) .nil) .nil) (.cons (.if_ (.o2 .eq (.var 2) (.str w_truth)) (.cons (.ret (.o2 .eq (.call F.law_mix (.cons (.var 0) (.cons (.int 9929) (.cons (.int 2) .nil)))) (.int 0))) .nil) .nil) (.cons (.ret (.call F.law_text (.cons (.var 0) .nil))) .nil))))) }
def f_law_kind : FDef := { n := 1, arity := 1, body :=
  (.cons (.ret (.tup (.cons (.o2 .idx (.tup (.cons (.str w_whole) (.cons (.str w_text) (.cons (.str w_truth) (.cons (.str w_whole) .nil))))) (.call F.law_mix (.cons (.var 0) (.cons (.int 9923) (.cons (.int 4) .nil))))) (.cons (.o2 .eq (.call F.law_mix (.cons (.var 0) (.cons (.int 9907) (.cons (.int 2) .nil)))) (.int 0)) .nil)))) .nil) }
def b_law_0 : ISs := (.cons (.asg (.nm 5) (.call F.law_value (.cons (.o2 .add (.var 2) (.int 2)) (.cons (.tup (.cons (.var 4) (.cons (.bl false) .nil))) .nil)))) (.cons (.asg (.nm 6) (.o2 .eq (.var 4) (.o2 .idx (.var 3) (.int 0)))) (.cons (.if_ (.or_ (.and_ (.o2 .isnot (.call F.is_of (.cons (.var 5) (.cons (.var 3) .nil))) (.bl true)) (.var 6)) (.and_ (.o2 .isnot (.call F.is_of (.cons (.var 5) (.cons (.var 3) .nil))) (.bl false)) (.o1 .not (.var 6)))) (.cons (.ret (.bl false)) .nil) .nil) .nil)))
def l_law_1 : IS := .for_ (.nm 4) (.seq (.tup (.cons (.str w_whole) (.cons (.str w_text) (.cons (.str w_truth) .nil))))) b_law_0
def b_law_2 : ISs := (.cons (.asg (.nm 2) (.o2 .add (.call F.law_cell (.cons (.var 0) (.cons (.o2 .mod (.var 1) (.int 9)) .nil))) (.o2 .mul (.int 31) (.var 1)))) (.cons (.asg (.nm 3) (.call F.law_kind (.cons (.var 2) .nil))) (.cons (.if_ (.or_ (.o2 .isnot (.call F.is_of (.cons (.call F.law_value (.cons (.o2 .add (.var 2) (.int 1)) (.cons (.var 3) .nil))) (.cons (.var 3) .nil))) (.bl true)) (.o2 .ne (.call F.is_of (.cons .non (.cons (.var 3) .nil))) (.o2 .idx (.var 3) (.int 1)))) (.cons (.ret (.bl false)) .nil) .nil) (.cons l_law_1 .nil))))
def l_law_3 : IS := .for_ (.nm 1) (.rng1 (.int 12)) b_law_2
def f_law : FDef := { n := 7, arity := 1, body :=
  (.cons l_law_3 (.cons (.if_ (.or_ (.o2 .isnot (.call F.is_of (.cons (.int 1) (.cons (.tup (.cons (.str w_truth) (.cons (.bl true) .nil))) .nil))) (.bl false)) (.o2 .isnot (.call F.is_of (.cons (.bl true) (.cons (.tup (.cons (.str w_whole) (.cons (.bl true) .nil))) .nil))) (.bl false))) (.cons (.ret (.bl false)) .nil) .nil) (.cons (.ret (.and_ (.o2 .is (.call F.is_of (.cons (.o2 .pow (.int 10) (.int 50)) (.cons (.tup (.cons (.str w_whole) (.cons (.bl false) .nil))) .nil))) (.bl true)) (.o2 .is (.call F.is_of (.cons (.str w_1) (.cons (.tup (.cons (.str w_whole) (.cons (.bl false) .nil))) .nil))) (.bl false)))) .nil))) }
def defs : Nat → Option FDef
  | 0 => some f_sort_of
  | 1 => some f_is_of
  | 2 => some f_law_cell
  | 3 => some f_law_mix
  | 4 => some f_law_text
  | 5 => some f_law_value
  | 6 => some f_law_kind
  | 7 => some f_law
  | _ => none
def L : List PF := [
  ⟨0, 1, Str.ofString "sort_of", ((["value"] : List String).map Str.ofString), ((["value"] : List String).map Str.ofString), []⟩,
  ⟨1, 2, Str.ofString "is_of", ((["value", "kind"] : List String).map Str.ofString), ((["value", "kind"] : List String).map Str.ofString), []⟩,
  ⟨2, 4, Str.ofString "_law_cell", ((["script", "k"] : List String).map Str.ofString), ((["script", "k"] : List String).map Str.ofString), []⟩,
  ⟨3, 5, Str.ofString "_law_mix", ((["cell", "prime", "many", "blend"] : List String).map Str.ofString), ((["cell", "prime", "many"] : List String).map Str.ofString), []⟩,
  ⟨4, 6, Str.ofString "_law_text", ((["cell", "signs", "k"] : List String).map Str.ofString), ((["cell"] : List String).map Str.ofString), []⟩,
  ⟨5, 7, Str.ofString "_law_value", ((["cell", "kind", "sort", "may"] : List String).map Str.ofString), ((["cell", "kind"] : List String).map Str.ofString), []⟩,
  ⟨6, 8, Str.ofString "_law_kind", ((["cell"] : List String).map Str.ofString), ((["cell"] : List String).map Str.ofString), []⟩,
  ⟨7, 9, Str.ofString "law", ((["script", "k", "cell", "kind", "sort", "value", "due"] : List String).map Str.ofString), ((["script"] : List String).map Str.ofString), []⟩]
def top (i : Nat) : Stmt := PySem.Challenge.pw_tablequest_k01_values_and_kinds.main.body.getD i (.Pass ⟨0, 0, 0, 0⟩)
def fnm (f : Nat) : Option (Str × Nat) := (L.find? fun p => p.f == f).map fun p => (p.x, p.ps.length)
theorem all_in (f : Nat) (x : Str) (ar : Nat) (h : fnm f = some (x, ar)) : ∃ p ∈ L, p.f = f := by
  unfold fnm at h
  cases q : L.find? fun p => p.f == f with
  | none => rw [q] at h; cases h
  | some p => exact ⟨p, List.mem_of_find?_eq_some q, by simpa using List.find?_some q⟩
theorem checked : (L.all fun p => chkF fnm defs p (top p.i)) = true := by decide +kernel
def loose : List PySem.Str := ((["sort_of", "is_of", "_law_cell", "_law_mix", "_law_text", "_law_value", "_law_kind"] : List String).map Str.ofString)
abbrev R : PySem.W.OpenRow := PySem.W.OpenLaw.row PySem.Challenge.rw_tablequest_k01_values_and_kinds
abbrev hk : PySem.W.Hook := He.hookD 4 (faOf L) (L.map (defD top))
def ob (s : PySem.W.SharedT) : He.AlD := He.obsDG 4 (faOf L) (L.map (defD top)) (HandSHeadRun.getT s)
theorem ob_eq (s : PySem.W.SharedT) : ob s = hk.obs s.abs := He.obsDG_eq (HandSHeadRun.getT_eq s)
theorem run (w : World) : HandSHeadRun.RunEq R (PySem.W.view R.prog [9]) hk ob 600 loose w := by
  intro os
  kernel_rfl
def mix (c p m : Int) : Int := (c * 48271 % p) * (c * 48271 % p + 7) % p % m
theorem mix_range (c p : Int) {m : Int} (hm : 0 < m) : 0 ≤ mix c p m ∧ mix c p m < m := ⟨Int.emod_nonneg _ (by omega), Int.emod_lt_of_pos _ hm⟩
theorem mix_eq (n : Nat) (c p m : Int) (hp : 0 < p) (hp2 : p ≤ 10000) (hm : 0 < m) : callF defs (n + 1) F.law_mix [.int c, .int p, .int m] = .ok (.int (mix c p m)) := by
  have h1 : 0 ≤ c * 48271 % p := Int.emod_nonneg _ (by omega)
  have h2 : c * 48271 % p < p := Int.emod_lt_of_pos _ hp
  have e1 : mulOk c 48271 = true := mulOk_r (by omega) (by omega)
  have e2 : mulOk (c * 48271 % p) (c * 48271 % p + 7) = true := mulOk_l (by omega) (by omega)
  simp [callF, defs, f_law_mix, runF, evalSs, evalS, evalE, o2_mul e1, o2_mod hp, o2_mul e2, o2_mod hm, mix]
theorem cell_eq (n : Nat) (ns : List Int) (k : Int) (hk : 0 ≤ k) : ∃ c : Int, callF defs (n + 1) F.law_cell [scrD (ns.map PyData.int), .int k] = .ok (.int c) := by
  by_cases h : k < ns.length
  · obtain ⟨x, hx, ha, _⟩ := atI_in (xs := ns.map PyData.int) hk (by simpa using h)
    obtain ⟨c, _, rfl⟩ := List.mem_map.mp hx
    exact ⟨c, by simp [callF, defs, f_law_cell, runF, evalSs, evalS, evalE, h, o2_idx_scr ha]⟩
  · exact ⟨0, by simp [callF, defs, f_law_cell, runF, evalSs, evalS, evalE, h]⟩
/-! kinds and values -/
def sortS : D → Option Str
  | .bool _ => some w_truth
  | .int _ => some w_whole
  | .str _ => some w_text
  | _ => none
def optS : Option Str → D
  | some s => .str s
  | none => .none
abbrev kindD (s : Str) (m : Bool) : D := .tuple [.str s, .bool m]
def noD : D → Bool
  | .dict _ => false
  | _ => true
theorem sort_of_eq (n : Nat) (d : D) (h : noD d = true) : callF defs (n + 1) F.sort_of [d] = .ok (optS (sortS d)) := by
  cases d <;> first | (cases h; done) | simp [callF, defs, f_sort_of, runF, evalSs, evalS, evalE, isiD, isTy, sortS, optS]
def isOf (v : D) (s : Str) (m : Bool) : Bool := match v with
  | .none => m
  | v => match sortS v with
    | some t => t == s
    | none => false
theorem is_of_eq (n : Nat) (v : D) (s : Str) (m : Bool) (h : noD v = true) : callF defs (n + 2) F.is_of [v, kindD s m] = .ok (.bool (isOf v s m)) := by
  have hs := sort_of_eq n v h
  rw [callF]
  simp only [defs]
  cases v <;> first | (cases h; done) | simp [f_is_of, runF, evalSs, evalS, evalE, evalEs, hs, isOf, sortS, optS]
def signs : Str := s_32_33_34_35_36_38_39_40_41_42_43_44_l94
theorem signs_len : signs.length = 94 := by decide +kernel
def signAt (i : Int) : Nat := (L2.atI signs.cps.toList i).getD 0
theorem signAt_eq (i : Int) (h0 : 0 ≤ i) (h1 : i < 94) : L2.atI signs.cps.toList i = some (signAt i) := by
  have hl : signs.cps.toList.length = 94 := by decide +kernel
  obtain ⟨x, _, ha, _⟩ := atI_in (xs := signs.cps.toList) h0 (by rw [hl]; exact h1)
  unfold signAt
  rw [ha]; rfl
def someTexts : List D := [.str s_e, .str w_a, .str w_b, .str w_ab, .str w_B]
theorem text_ex (n : Nat) (c : Int) : ∃ x : Str, callF defs (n + 2) F.law_text [.int c] = .ok (.str x) := by
  have m1 : callF defs (n + 1) F.law_mix [.int c, .int 9973, .int 5] = .ok (.int (mix c 9973 5)) := mix_eq n c 9973 5 (by omega) (by omega) (by omega)
  have m2 : callF defs (n + 1) F.law_mix [.int c, .int 9949, .int 5] = .ok (.int (mix c 9949 5)) := mix_eq n c 9949 5 (by omega) (by omega) (by omega)
  have h3 : op2 .mod (.int c) (.int 3) = .ok (.int (c % 3)) := o2_mod (by omega)
  by_cases h : c % 3 = 0
  · obtain ⟨h1, h2⟩ := mix_range c 9973 (m := 5) (by omega)
    obtain ⟨x, hx, ha, _⟩ := atI_in (xs := someTexts) h1 (by simp [someTexts]; omega)
    have hx' : ∃ y, x = .str y := by
      simp only [someTexts, List.mem_cons, List.not_mem_nil, or_false] at hx
      rcases hx with rfl | rfl | rfl | rfl | rfl <;> exact ⟨_, rfl⟩
    obtain ⟨y, rfl⟩ := hx'
    refine ⟨y, ?_⟩
    have := o2_idx_t ha
    unfold someTexts at this
    rw [callF]
    simp [defs, f_law_text, runF, evalSs, evalS, evalE, evalEs, m1, h3, h, this]
  · obtain ⟨h1, h2⟩ := mix_range c 9949 (m := 5) (by omega)
    have hr := rng1_ok (n := mix c 9949 5) h1 (by omega)
    let g : D → D := fun d => match d with
      | .int k => .str ⟨#[signAt (mix (c + 7 * k) 9967 94)]⟩
      | d => d
    have hsl : op1 .len (.str s_32_33_34_35_36_38_39_40_41_42_43_44_l94) = .ok (.int 94) := by rw [o1_len_s]; exact congrArg (fun n : Nat => Res.ok (PyData.int n)) signs_len
    have hc : evalE (callF defs (n + 1)) c_law_text_0 [some (.int c), some (.str s_32_33_34_35_36_38_39_40_41_42_43_44_l94), none] = .ok (.list ((rangeD 0 (mix c 9949 5).toNat).map g)) := by
      unfold c_law_text_0
      refine comp_nm (by simp [evalIT, evalE, evalEs, m2, hr]) fun d hd => ?_
      obtain ⟨k, rfl, k0, k1⟩ := mem_range hd
      have m3 : callF defs (n + 1) F.law_mix [.int (c + 7 * k), .int 9967, .int 94] = .ok (.int (mix (c + 7 * k) 9967 94)) := mix_eq n (c + 7 * k) 9967 94 (by omega) (by omega) (by omega)
      obtain ⟨a1, a2⟩ := mix_range (c + 7 * k) 9967 (m := 94) (by omega)
      have e7 : op2 .mul (.int 7) (.int k) = .ok (.int (7 * k)) := o2_mul (mulOk_l (by omega) (by omega))
      have ei : op2 .idx (.str s_32_33_34_35_36_38_39_40_41_42_43_44_l94) _ = _ := o2_idx_s (signAt_eq _ a1 a2)
      simp [evalE, evalEs, e7, hsl, m3, ei, g]
    have hstr : ∀ l : List D, (∀ d ∈ l, ∃ k, d = .int k) → ∃ xs : List Str, strsD (l.map g) = some xs ∧ xs.length = l.length ∧ (xs.map Str.length).sum = l.length := by
      intro l
      induction l with
      | nil => intro _; exact ⟨[], rfl, rfl, rfl⟩
      | cons d r ih =>
        intro hd
        obtain ⟨xs, e1, e2, e3⟩ := ih fun x hx => hd x (List.mem_cons_of_mem _ hx)
        obtain ⟨k, rfl⟩ := hd d (by simp)
        refine ⟨_ :: xs, by simp only [List.map_cons, strsD, g, e1, Option.map_some]; rfl, by simp [e2], ?_⟩
        simp only [List.map_cons, List.sum_cons, e3, List.length_cons]
        show 1 + r.length = r.length + 1
        omega
    obtain ⟨xs, e1, e2, e3⟩ := hstr (rangeD 0 (mix c 9949 5).toNat) fun d hd => by
      obtain ⟨k, rfl, _⟩ := mem_range hd
      exact ⟨k, rfl⟩
    have hj : op2 .join (.str s_e) (.list ((rangeD 0 (mix c 9949 5).toNat).map g)) = .ok (.str (Str.join s_e xs)) := by
      rw [show op2 .join = joinD from rfl]
      unfold joinD
      simp only [e1, e3]
      rw [if_pos]
      refine decide_eq_true ?_
      have : s_e.length = 0 := rfl
      rw [rangeD_length, this, Nat.mul_zero, sizeLine_eq]
      omega
    refine ⟨Str.join s_e xs, ?_⟩
    rw [callF]
    simp [defs, f_law_text, runF, evalSs, evalS, evalE, evalEs, h3, h, hc, hj]
/-- the three sorts -/
def sorts3 : List Str := [w_whole, w_text, w_truth]
theorem kind_ex (n : Nat) (c : Int) : ∃ s m, s ∈ sorts3 ∧ callF defs (n + 2) F.law_kind [.int c] = .ok (kindD s m) := by
  have m1 : callF defs (n + 1) F.law_mix [.int c, .int 9923, .int 4] = .ok (.int (mix c 9923 4)) := mix_eq n c 9923 4 (by omega) (by omega) (by omega)
  have m2 : callF defs (n + 1) F.law_mix [.int c, .int 9907, .int 2] = .ok (.int (mix c 9907 2)) := mix_eq n c 9907 2 (by omega) (by omega) (by omega)
  obtain ⟨h1, h2⟩ := mix_range c 9923 (m := 4) (by omega)
  obtain ⟨x, hx, ha, _⟩ := atI_in (xs := [PyData.str w_whole, .str w_text, .str w_truth, .str w_whole]) h1 (by simp; omega)
  have hx' : ∃ s ∈ sorts3, x = .str s := by
    simp only [List.mem_cons, List.not_mem_nil, or_false] at hx
    rcases hx with rfl | rfl | rfl | rfl <;> exact ⟨_, by simp [sorts3], rfl⟩
  obtain ⟨s, hs, rfl⟩ := hx'
  refine ⟨s, mix c 9907 2 == 0, hs, ?_⟩
  have := o2_idx_t ha
  rw [callF]
  simp [defs, f_law_kind, runF, evalSs, evalS, evalE, evalEs, m1, m2, this]
theorem value_ex (n : Nat) (c : Int) (s : Str) (m : Bool) (hs : s ∈ sorts3) : ∃ v, callF defs (n + 3) F.law_value [.int c, kindD s m] = .ok v ∧ noD v = true ∧ isOf v s m = true ∧ (m = false → sortS v = some s) := by
  have m1 : callF defs (n + 2) F.law_mix [.int c, .int 9941, .int 3] = .ok (.int (mix c 9941 3)) := mix_eq (n + 1) c 9941 3 (by omega) (by omega) (by omega)
  have m2 : callF defs (n + 2) F.law_mix [.int c, .int 9931, .int 7] = .ok (.int (mix c 9931 7)) := mix_eq (n + 1) c 9931 7 (by omega) (by omega) (by omega)
  have m3 : callF defs (n + 2) F.law_mix [.int c, .int 9929, .int 2] = .ok (.int (mix c 9929 2)) := mix_eq (n + 1) c 9929 2 (by omega) (by omega) (by omega)
  obtain ⟨x, hx⟩ := text_ex n c
  have k1 : (w_text == w_whole) = false := by decide +kernel
  have k2 : (w_truth == w_whole) = false := by decide +kernel
  have k3 : (w_text == w_truth) = false := by decide +kernel
  by_cases hg : m = true ∧ mix c 9941 3 = 0
  · obtain ⟨rfl, hg⟩ := hg
    refine ⟨.none, ?_, rfl, rfl, fun h => nomatch h⟩
    rw [callF]
    simp [defs, f_law_value, runF, evalSs, evalS, evalE, evalEs, m1, hg]
  · simp only [sorts3, List.mem_cons, List.not_mem_nil, or_false] at hs
    have go : callF defs (n + 3) F.law_value [.int c, kindD s m] = (if (s == w_whole) = true then .ok (.int (mix c 9931 7 - 3)) else if (s == w_truth) = true then .ok (.bool (mix c 9929 2 == 0)) else .ok (.str x)) := by
      rw [callF]
      cases m with
      | false =>
        by_cases q1 : (s == w_whole) = true
        · simp [defs, f_law_value, runF, evalSs, evalS, evalE, evalEs, m2, q1]
        · by_cases q2 : (s == w_truth) = true
          · simp [defs, f_law_value, runF, evalSs, evalS, evalE, evalEs, m3, q1, q2]
          · simp [defs, f_law_value, runF, evalSs, evalS, evalE, evalEs, hx, q1, q2]
      | true =>
        have : ¬ mix c 9941 3 = 0 := fun z => hg ⟨rfl, z⟩
        by_cases q1 : (s == w_whole) = true
        · simp [defs, f_law_value, runF, evalSs, evalS, evalE, evalEs, m1, m2, q1, this]
        · by_cases q2 : (s == w_truth) = true
          · simp [defs, f_law_value, runF, evalSs, evalS, evalE, evalEs, m1, m3, q1, q2, this]
          · simp [defs, f_law_value, runF, evalSs, evalS, evalE, evalEs, m1, hx, q1, q2, this]
    rcases hs with rfl | rfl | rfl
    · exact ⟨.int (mix c 9931 7 - 3), by rw [go]; simp only [beq_self_eq_true, if_true], rfl, by simp [isOf, sortS], fun _ => rfl⟩
    · exact ⟨.str x, by rw [go]; simp only [k1, k3, if_false, Bool.false_eq_true], rfl, by simp [isOf, sortS], fun _ => rfl⟩
    · exact ⟨.bool (mix c 9929 2 == 0), by rw [go]; simp only [k2, if_false, Bool.false_eq_true, beq_self_eq_true, if_true], rfl, by simp [isOf, sortS], fun _ => rfl⟩
theorem isOf_sort {v : D} {s t : Str} {m : Bool} (h : sortS v = some t) : isOf v s m = (t == s) := by
  cases v <;> simp [sortS] at h <;> subst h <;> simp [isOf, sortS]
/-- the inner loop's turn -/
theorem inner (n : Nat) (sc : D) (k : Option D) (c : Int) (s t : Str) (m : Bool) (ht : t ∈ sorts3) (e f : Option D) :
    ∃ e' f', evalSs (callF defs (n + 3)) b_law_0 [some sc, k, some (.int c), some (kindD s m), some (.str t), e, f] = .ok (.next [some sc, k, some (.int c), some (kindD s m), some (.str t), e', f']) := by
  obtain ⟨v, hv, hd, _, hs⟩ := value_ex n (c + 2) t false ht
  have hi : callF defs (n + 3) F.is_of [v, kindD s m] = .ok (.bool (isOf v s m)) := is_of_eq (n + 1) v s m hd
  rw [isOf_sort (hs rfl)] at hi
  refine ⟨some v, some (.bool (t == s)), ?_⟩
  cases q : (t == s) <;> rw [q] at hi <;> simp [b_law_0, evalSs, evalS, evalE, evalEs, hv, hi, q]
theorem outer (n : Nat) (ns : List Int) (k : Int) (hk : 0 ≤ k) (hk' : k < 12) (a b c d e f : Option D) :
    ∃ b' c' d' e' f', evalSs (callF defs (n + 3)) b_law_2 [some (scrD (ns.map PyData.int)), some (.int k), b, c, d, e, f] = .ok (.next [some (scrD (ns.map PyData.int)), some (.int k), b', c', d', e', f']) := by
  have e9 : op2 .mod (.int k) (.int 9) = .ok (.int (k % 9)) := o2_mod (by omega)
  have e31 : op2 .mul (.int 31) (.int k) = .ok (.int (31 * k)) := o2_mul (mulOk_l (by omega) (by omega))
  obtain ⟨cc, hc⟩ := cell_eq (n + 2) ns (k % 9) (by omega)
  obtain ⟨s, m, hs, hkd⟩ := kind_ex (n + 1) (cc + 31 * k)
  obtain ⟨v, hv, hd, ho, _⟩ := value_ex n (cc + 31 * k + 1) s m hs
  have hi : callF defs (n + 3) F.is_of [v, kindD s m] = .ok (.bool (isOf v s m)) := is_of_eq (n + 1) v s m hd
  rw [ho] at hi
  have hn : callF defs (n + 3) F.is_of [.none, kindD s m] = .ok (.bool m) := is_of_eq (n + 1) .none s m rfl
  have hl : ∃ b' c' d', evalS (callF defs (n + 3)) l_law_1 [some (scrD (ns.map PyData.int)), some (.int k), some (.int (cc + 31 * k)), some (kindD s m), d, e, f] = .ok (.next [some (scrD (ns.map PyData.int)), some (.int k), some (.int (cc + 31 * k)), some (kindD s m), b', c', d']) := by
    obtain ⟨env, h1, h2⟩ := forD_inv (f := fun d e => ((Tg.nm 4).put d e).bind fun e' => evalSs (callF defs (n + 3)) b_law_0 e') (ds := [.str w_whole, .str w_text, .str w_truth]) (env := [some (scrD (ns.map PyData.int)), some (.int k), some (.int (cc + 31 * k)), some (kindD s m), d, e, f])
      (fun env => ∃ b' c' d', env = [some (scrD (ns.map PyData.int)), some (.int k), some (.int (cc + 31 * k)), some (kindD s m), b', c', d']) (fun d hd env hp => by
        obtain ⟨b', c', d', rfl⟩ := hp
        have : ∃ t ∈ sorts3, d = .str t := by
          simp only [List.mem_cons, List.not_mem_nil, or_false] at hd
          rcases hd with rfl | rfl | rfl <;> exact ⟨_, by simp [sorts3], rfl⟩
        obtain ⟨t, ht, rfl⟩ := this
        obtain ⟨e', f', he⟩ := inner n (scrD (ns.map PyData.int)) (some (.int k)) (cc + 31 * k) s t m ht c' d'
        exact ⟨_, by simpa using he, _, _, _, rfl⟩) ⟨_, _, _, rfl⟩
    obtain ⟨b', c', d', rfl⟩ := h2
    refine ⟨b', c', d', ?_⟩
    simp only [l_law_1, evalS, evalIT, evalE, evalEs, bind_ok, itemsOf]
    exact h1
  obtain ⟨b', c', d', hl⟩ := hl
  refine ⟨some (.int (cc + 31 * k)), some (kindD s m), b', c', d', ?_⟩
  have hc : callF defs (n + 3) F.law_cell [scrD (ns.map PyData.int), .int (k % 9)] = .ok (.int cc) := hc
  have hkd : callF defs (n + 3) F.law_kind [.int (cc + 31 * k)] = .ok (kindD s m) := hkd
  cases m <;> simp [b_law_2, evalSs, evalS, evalE, evalEs, e9, e31, hc, hkd, hv, hi, hn, hl]
theorem law_true (ns : List Int) (h : ns.length ≤ 63) : callF defs deep (L.getD 7 default).f [scrD (ns.map PyData.int)] = .ok (.bool true) := by
  have hl : ∃ a b c d e f, evalS (callF defs 199) l_law_3 [some (scrD (ns.map PyData.int)), none, none, none, none, none, none] = .ok (.next [some (scrD (ns.map PyData.int)), a, b, c, d, e, f]) := by
    obtain ⟨env, h1, h2⟩ := forD_inv (f := fun d e => ((Tg.nm 1).put d e).bind fun e' => evalSs (callF defs 199) b_law_2 e') (ds := rangeD 0 12) (env := [some (scrD (ns.map PyData.int)), none, none, none, none, none, none])
      (fun env => ∃ a b c d e f, env = [some (scrD (ns.map PyData.int)), a, b, c, d, e, f]) (fun x hx env hp => by
        obtain ⟨a, b, c, d, e, f, rfl⟩ := hp
        obtain ⟨k, rfl, k0, k1⟩ := mem_range hx
        obtain ⟨b', c', d', e', f', he⟩ := outer 196 ns k k0 (by omega) a b c d e f
        exact ⟨_, by simpa using he, _, _, _, _, _, _, rfl⟩) ⟨_, _, _, _, _, _, rfl⟩
    obtain ⟨a, b, c, d, e, f, rfl⟩ := h2
    refine ⟨a, b, c, d, e, f, ?_⟩
    have hr : rng1D (.int 12) = .ok (rangeD 0 12) := rng1_ok (by omega) (by omega)
    simp only [l_law_3, evalS, evalIT, evalE, bind_ok, hr]
    exact h1
  obtain ⟨a, b, c, d, e, f, hl⟩ := hl
  have i1 : callF defs 199 F.is_of [.int 1, kindD w_truth true] = .ok (.bool false) := is_of_eq 197 _ _ _ rfl
  have i2 : callF defs 199 F.is_of [.bool true, kindD w_whole true] = .ok (.bool false) := is_of_eq 197 _ _ _ rfl
  have i3 : ∀ z : Int, callF defs 199 F.is_of [.int z, kindD w_whole false] = .ok (.bool true) := fun z => is_of_eq 197 _ _ _ rfl
  have i4 : callF defs 199 F.is_of [.str w_1, kindD w_whole false] = .ok (.bool false) := is_of_eq 197 _ _ _ rfl
  have p50 : op2 .pow (.int 10) (.int 50) = .ok (.int (10 ^ 50)) := rfl
  show callF defs 200 7 _ = _
  rw [callF]
  simp [defs, f_law, runF, evalSs, evalS, evalE, evalEs, hl, i1, i2, p50, i3, i4]
end Tq
open PySem PySem.W PySem.Calls PyProof.Rows
theorem PySem.Challenge.cw_tablequest_k01_values_and_kinds_holds : PySem.Challenge.rw_tablequest_k01_values_and_kinds.Holds := by
  w_on; o_law
  refine HandSHeadRun.head_any (r := Tq.R) (q := PySem.W.view Tq.R.prog [9]) (H := Tq.hk) (ob := Tq.ob) (M := 600) (loose := Tq.loose)
    (d := HandSHeadRun.topDef Tq.R.prog 9) (kwd := []) Tq.ob_eq (by kernel_rfl) (fun s => by kernel_rfl) Tq.run (by kernel_rfl) (by kernel_rfl) (by kernel_rfl) (by rfl)
    (by first | assumption | decide +kernel) (by decide +kernel) ⟨rfl, rfl, rfl, rfl, rfl, by decide +kernel⟩ ?hw ?hc
  case hw => w_witness2
  case hc =>
    exact Tq.walk_tq (l := PySem.Challenge.rw_tablequest_k01_values_and_kinds) rfl (by kernel_rfl) (Tq.L.getD 7 default) (List.mem_iff_getElem?.mpr ⟨7, by rfl⟩) (by kernel_rfl) (by decide +kernel) (fun p hp => List.all_eq_true.mp Tq.checked p hp) Tq.all_in Tq.law_true
