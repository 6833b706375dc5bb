import PyProof.Rows.All
import Wide.All
import OpenK.AllK
import Wide.FinOn
import HandS.ForMost
import HandS.ForExc
import HandS.IsInst
import HandS.StrMore
import HandS.Deep
import HandS.TupAny
import HandS.TryMany
import HandS.Codes
import HandS.Walk
import KE.GoesMore
import KE.GoesEnum
import KE.GoesZip
import KE.KStateDown
import HandS.Words
import HandS.WordsExc
import HandS.Defaults
import HandS.Head0
import HandS.Head1
import HandS.Head2
import HandS.HeadEnd
import HandS.HeadHook1
import HandS.HeadHook2
import PySem.Challenge.RW_resumetrue_k54_main_leaves_broken_off
section
set_option Elab.async false
set_option linter.all false
set_option maxRecDepth 100000
/-! Fx, part 1: values, the small language, its evaluator. -/
namespace Fx
open PySem L2

/-! ### values -/
inductive PV where
  | non | bl (b : Bool) | int (i : Int) | str (s : Str) | tup (xs : List PV) | lst (xs : List PV) | scr (ns : List Int) | ref (n : Nat)
  deriving Inhabited
inductive Ob where
  | lst (xs : List PV)
  deriving Inhabited
abbrev PHeap := List Ob
abbrev PSt := List (Option PV)
inductive Res (α : Type) where
  | ok (a : α) (h : PHeap) | exc (c : Nat) (h : PHeap) | stuck
def Res.bind {α β : Type} (r : Res α) (f : α → PHeap → Res β) : Res β := match r with
  | .ok a h => f a h
  | .exc c h => .exc c h
  | .stuck => .stuck
@[simp] theorem bind_ok {α β : Type} (a : α) (h : PHeap) (f : α → PHeap → Res β) : (Res.ok a h).bind f = f a h := id rfl
@[simp] theorem bind_exc {α β : Type} (c : Nat) (h : PHeap) (f : α → PHeap → Res β) : (Res.exc c h).bind f = .exc c h := id rfl
@[simp] theorem bind_stuck {α β : Type} (f : α → PHeap → Res β) : (Res.stuck).bind f = .stuck := id rfl
def Res.calm {α : Type} : Res α → Res α
  | .exc _ _ => .stuck
  | r => r
@[simp] theorem calm_ok {α : Type} (a : α) (h : PHeap) : (Res.ok a h).calm = .ok a h := id rfl
def lift {α : Type} (o : Option α) (h : PHeap) : Res α := match o with
  | some a => .ok a h
  | none => .stuck
@[simp] theorem lift_some {α : Type} (a : α) (h : PHeap) : lift (some a) h = .ok a h := id rfl
@[simp] theorem lift_none {α : Type} (h : PHeap) : lift (none : Option α) h = .stuck := id rfl

inductive SRes where
  | next (σ : PSt) (h : PHeap) | ret (v : PV) (h : PHeap) | brk (σ : PSt) (h : PHeap) | cont (σ : PSt) (h : PHeap) | exc (c : Nat) (σ : PSt) (h : PHeap) | stuck

/-- nothing may be raised here -/
def SRes.calm : SRes → SRes
  | .exc _ _ _ => .stuck
  | r => r
mutual
/-- no reference in it -/
def PV.pure : PV → Bool
  | .ref _ => false
  | .tup xs => PV.pures xs
  | .lst xs => PV.pures xs
  | _ => true
def PV.pures : List PV → Bool
  | [] => true
  | x :: r => PV.pure x && PV.pures r
end
mutual
def PV.beq : PV → PV → Bool
  | .non, .non => true
  | .bl a, .bl b => a == b
  | .int a, .int b => a == b
  | .str a, .str b => a == b
  | .tup xs, .tup ys => PV.beqs xs ys
  | .lst xs, .lst ys => PV.beqs xs ys
  | .scr a, .scr b => a == b
  | .ref a, .ref b => a == b
  | _, _ => false
def PV.beqs : List PV → List PV → Bool
  | [], [] => true
  | x :: xs, y :: ys => PV.beq x y && PV.beqs xs ys
  | _, _ => false
end
mutual
theorem PV.eq_of_beq : ∀ x y : PV, PV.beq x y = true → x = y
  | .non, y, h => by cases y <;> simp_all [PV.beq]
  | .bl a, y, h => by cases y <;> simp_all [PV.beq]
  | .int a, y, h => by cases y <;> simp_all [PV.beq]
  | .str a, y, h => by cases y <;> simp_all [PV.beq]
  | .tup xs, y, h => by
    cases y with
    | tup ys => rw [PV.eq_of_beqs xs ys (by simpa [PV.beq] using h)]
    | _ => simp [PV.beq] at h
  | .lst xs, y, h => by
    cases y with
    | lst ys => rw [PV.eq_of_beqs xs ys (by simpa [PV.beq] using h)]
    | _ => simp [PV.beq] at h
  | .scr a, y, h => by cases y <;> simp_all [PV.beq]
  | .ref a, y, h => by cases y <;> simp_all [PV.beq]
theorem PV.eq_of_beqs : ∀ x y : List PV, PV.beqs x y = true → x = y
  | [], [], _ => rfl
  | [], _ :: _, h => by simp [PV.beqs] at h
  | _ :: _, [], h => by simp [PV.beqs] at h
  | x :: xs, y :: ys, h => by
    simp only [PV.beqs, Bool.and_eq_true] at h
    rw [PV.eq_of_beq x y h.1, PV.eq_of_beqs xs ys h.2]
end
mutual
theorem PV.beq_self : ∀ x : PV, PV.beq x x = true
  | .non => rfl
  | .bl a => by simp [PV.beq]
  | .int a => by simp [PV.beq]
  | .str a => by simp [PV.beq]
  | .tup xs => by simp [PV.beq, PV.beqs_self xs]
  | .lst xs => by simp [PV.beq, PV.beqs_self xs]
  | .scr a => by simp [PV.beq]
  | .ref a => by simp [PV.beq]
theorem PV.beqs_self : ∀ x : List PV, PV.beqs x x = true
  | [] => rfl
  | x :: xs => by simp [PV.beqs, PV.beq_self x, PV.beqs_self xs]
end
def Ob.beq : Ob → Ob → Bool
  | .lst a, .lst b => PV.beqs a b
def heapEq : PHeap → PHeap → Bool
  | [], [] => true
  | a :: r, b :: s => Ob.beq a b && heapEq r s
  | _, _ => false
theorem Ob.eq_of_beq : ∀ a b : Ob, Ob.beq a b = true → a = b
  | .lst a, .lst b, h => by rw [PV.eq_of_beqs a b h]
theorem heapEq_eq : ∀ a b : PHeap, heapEq a b = true → a = b
  | [], [], _ => rfl
  | [], _ :: _, h => by simp [heapEq] at h
  | _ :: _, [], h => by simp [heapEq] at h
  | a :: r, b :: s, h => by
    simp only [heapEq, Bool.and_eq_true] at h
    rw [Ob.eq_of_beq a b h.1, heapEq_eq r s h.2]
@[simp] theorem heapEq_self : ∀ a : PHeap, heapEq a a = true
  | [] => rfl
  | .lst a :: r => by simp [heapEq, Ob.beq, PV.beqs_self, heapEq_self r]
@[simp] theorem heapEq_app (a g : PHeap) : heapEq ((a ++ g).take a.length) a = true := by simp

/-- what a def hands back, off its own part of the heap: lists are handed back as values -/
def frz : Nat → Nat → PHeap → PV → Option PV
  | 0, _, _, _ => none
  | f + 1, n, h, v => if PV.pure v then some v else match v with
    | .ref i => if i < n then some (.ref i) else match h[i]? with
      | some (.lst xs) => (xs.mapM (frz f n h)).map .lst
      | none => none
    | .tup xs => (xs.mapM (frz f n h)).map .tup
    | .lst xs => (xs.mapM (frz f n h)).map .lst
    | _ => none
theorem frz_pure {f n : Nat} {h : PHeap} {v : PV} (p : PV.pure v = true) : frz (f + 1) n h v = some v := by
  unfold frz; rw [if_pos p]
def exitR (h0 : PHeap) : SRes → Res PV
  | .ret v h' => if heapEq (h'.take h0.length) h0 then (match frz 9 h0.length h' v with
      | some v' => .ok v' h0
      | none => .ok v h') else .ok v h'
  | .next _ h' => if heapEq (h'.take h0.length) h0 then .ok .non h0 else .ok .non h'
  | .exc c _ h' => if heapEq (h'.take h0.length) h0 then .exc c h0 else .exc c h'
  | _ => .stuck

/-! ### values told -/
mutual
def toD : PV → Option PyData
  | .non => some .none
  | .bl b => some (.bool b)
  | .int i => some (.int i)
  | .str s => some (.str s)
  | .tup xs => (toDs xs).map .tuple
  | .lst xs => (toDs xs).map .list
  | .scr _ => none
  | .ref _ => none
def toDs : List PV → Option (List PyData)
  | [] => some []
  | x :: r => match toD x, toDs r with
    | some d, some ds => some (d :: ds)
    | _, _ => none
end
/-- a list, as it stands -/
def asL (h : PHeap) : PV → Option (List PV)
  | .lst xs => some xs
  | .ref n => match h[n]? with
    | some (.lst xs) => some xs
    | none => none
  | _ => none
def asLT (h : PHeap) : PV → Option (List PV)
  | .tup xs => some xs
  | v => asL h v
/-- a value as data, a list of its own read -/
def toDH (h : PHeap) (v : PV) : Option PyData := match v with
  | .ref _ => (asL h v).bind fun xs => (toDs xs).map .list
  | v => toD v
def allStr : List PV → Option (List Str)
  | [] => some []
  | .str s :: r => (allStr r).map (s :: ·)
  | _ :: _ => none
def allBl : List PV → Option (List Bool)
  | [] => some []
  | .bl b :: r => (allBl r).map (b :: ·)
  | _ :: _ => none
def allInt : List PV → Option (List Int)
  | [] => some []
  | .int b :: r => (allInt r).map (b :: ·)
  | _ :: _ => none
def chars (s : Str) : List PV := s.cps.toList.map fun c => .str ⟨#[c]⟩

/-! ### operators -/
def addV (h : PHeap) : PV → PV → Option PV
  | .int i, .int j => some (.int (i + j))
  | .str a, .str b => if a.length + b.length ≤ sizeLine then some (.str (a ++ b)) else none
  | .tup xs, .tup ys => if xs.length + ys.length ≤ sizeLine then some (.tup (xs ++ ys)) else none
  | x, y => match asL h x, asL h y with
    | some xs, some ys => if xs.length + ys.length ≤ sizeLine then some (.lst (xs ++ ys)) else none
    | _, _ => none
def subV : PV → PV → Option PV
  | .int i, .int j => some (.int (i - j))
  | _, _ => none
def mulV (h : PHeap) : PV → PV → Option PV
  | .int i, .int j => if (-(2 ^ 64) < i ∧ i < 2 ^ 64) ∨ (-(2 ^ 64) < j ∧ j < 2 ^ 64) then some (.int (i * j)) else none
  | .str a, .int k => if 2 ≤ k ∧ k ≤ 1000000 ∧ 0 < a.length ∧ a.length * k.toNat ≤ sizeLine then some (.str ⟨(List.replicate k.toNat a.cps.toList).flatten.toArray⟩) else none
  | x, .int k => match asL h x with
    | some xs => if -(2 ^ 63) ≤ k ∧ k < 2 ^ 63 ∧ xs.length * k.toNat ≤ sizeLine then some (.lst (List.replicate k.toNat xs).flatten) else none
    | none => none
  | _, _ => none
def fdivV : PV → PV → Option PV
  | .int i, .int j => if 0 < j ∧ j < 1073741824 then some (.int (i / j)) else none
  | _, _ => none
def modV : PV → PV → Option PV
  | .int i, .int j => if 0 < j then some (.int (i % j)) else none
  | _, _ => none
def powV : PV → PV → Option PV
  | .int i, .int j => if 0 ≤ j ∧ j ≤ 1000000 ∧ i.natAbs < 2 ^ 64 then some (.int (i ^ j.toNat)) else none
  | _, _ => none
def binV (op : Operator) (h : PHeap) (x y : PV) : Option PV := match op with
  | .Add => addV h x y
  | .Sub => subV x y
  | .Mult => mulV h x y
  | .FloorDiv => fdivV x y
  | .Mod => modV x y
  | .Pow => powV x y
  | _ => none
def augV (op : Operator) (x y : PV) : Option PV := match op, x, y with
  | .Add, .int i, .int j => some (.int (i + j))
  | .Sub, .int i, .int j => some (.int (i - j))
  | .Add, .str a, .str b => if a.length + b.length ≤ sizeLine then some (.str (a ++ b)) else none
  | _, _, _ => none
def eqD (d e : PyData) : Option Bool := if SeqAt.shaped d && SeqAt.shaped e then some (PyData.eqv d e) else none
def eqV (h : PHeap) (x y : PV) : Option Bool := match toDH h x, toDH h y with
  | some d, some e => eqD d e
  | _, _ => none
def inStr (a b : Str) : Bool := match a.cps.toList with
  | [c] => decide (c ∈ b.cps.toList)
  | _ => !(Builtin.Str.occurrences b a 0 b.length 1).isEmpty
def flat : PV → Bool
  | .non => true
  | .bl _ => true
  | .int _ => true
  | .str _ => true
  | _ => false
def eqF : PV → PV → Bool
  | .non, .non => true
  | .bl a, .bl b => a == b
  | .bl a, .int b => (if a then 1 else 0) == b
  | .int a, .bl b => a == (if b then 1 else 0)
  | .int a, .int b => a == b
  | .str a, .str b => a == b
  | _, _ => false
def inV (h : PHeap) (x y : PV) : Option Bool := match x, y with
  | .str a, .str b => some (inStr a b)
  | x, y => match asLT h y with
    | some ys => if flat x && ys.all flat then some (ys.any fun z => eqF z x) else none
    | none => none
def cmpV (op : CmpOp) (h : PHeap) (x y : PV) : Option Bool := match op with
  | .Eq => eqV h x y
  | .NotEq => (eqV h x y).map (!·)
  | .Lt => match x, y with
    | .int i, .int j => some (decide (i < j))
    | .str i, .str j => some (decide (i.cps.toList < j.cps.toList))
    | _, _ => none
  | .LtE => match x, y with
    | .int i, .int j => some (decide (i ≤ j))
    | _, _ => none
  | .Gt => match x, y with
    | .int i, .int j => some (decide (j < i))
    | _, _ => none
  | .GtE => match x, y with
    | .int i, .int j => some (decide (j ≤ i))
    | _, _ => none
  | .Is => match y with
    | .non => some (match x with | .non => true | _ => false)
    | _ => none
  | .IsNot => match y with
    | .non => some (match x with | .non => false | _ => true)
    | _ => none
  | .In => inV h x y
  | .NotIn => (inV h x y).map (!·)
def truV (h : PHeap) : PV → Option Bool
  | .non => some false
  | .bl b => some b
  | .int i => some (i != 0)
  | .str s => if s.length ≤ sizeLine then some ((s.length : Int) != 0) else none
  | .tup xs => some (!xs.isEmpty)
  | v => (asL h v).map fun xs => !xs.isEmpty
def subsV (h : PHeap) (x i : PV) : Option PV := match i with
  | .int k => match x with
    | .str s => if s.length ≤ sizeLine then (atI s.cps.toList k).map fun c => .str ⟨#[c]⟩ else none
    | x => (asLT h x).bind fun xs => atI xs k
  | _ => none
def cutP {α : Type} (xs : List α) (lo hi : Option Int) : List α := (xs.drop (HT.sIx xs.length 0 lo)).take (HT.sIx xs.length xs.length hi - HT.sIx xs.length 0 lo)
abbrev cutStr (s : Str) (lo hi : Option Int) : Str := L2.cutS s lo hi
def sliceV (h : PHeap) (x : PV) (lo hi : Option Int) : Option PV := match x with
  | .str s => if s.length ≤ sizeLine then some (.str (cutStr s lo hi)) else none
  | .tup xs => some (.tup (cutP xs lo hi))
  | .scr ns => some (.lst ((cutP ns lo hi).map .int))
  | x => (asL h x).map fun xs => .lst (cutP xs lo hi)

/-! ### built-in functions and methods -/
inductive BF where
  | len | all | any | sum | str | int | abs | min | max | tuple | list
  deriving DecidableEq
inductive BM where
  | index | rjust | find | find3 | join | append
  deriving DecidableEq
inductive IsT where
  | str | int | bool | tuple | list
  deriving DecidableEq
def lenV (h : PHeap) : PV → Option PV
  | .str s => if s.length ≤ sizeLine then some (.int s.length) else none
  | v => (asLT h v).map fun xs => .int xs.length
def on1 (f : PV → Option PV) : List PV → Option PV
  | [v] => f v
  | _ => none
def on2 (f : PV → PV → Option PV) : List PV → Option PV
  | [v, u] => f v u
  | _ => none
def strV : PV → Option PV
  | .int i => if i.natAbs.log2 < 1920 then some (.str (Str.ofString (toString i))) else none
  | _ => none
def intV : PV → Option PV
  | .int i => some (.int i)
  | .bl b => some (.int (if b then 1 else 0))
  | _ => none
def absV : PV → Option PV
  | .int i => some (.int (if i < 0 then -i else i))
  | _ => none
def minV : PV → PV → Option PV
  | .int i, .int j => some (.int (if j < i then j else i))
  | _, _ => none
def maxV : PV → PV → Option PV
  | .int i, .int j => some (.int (if j > i then j else i))
  | _, _ => none
def bfV (f : BF) (h : PHeap) : List PV → Option PV := match f with
  | .len => on1 (lenV h)
  | .all => on1 fun v => (asL h v).bind fun xs => (allBl xs).map fun bs => .bl (bs.all id)
  | .any => on1 fun v => (asL h v).bind fun xs => (allBl xs).map fun bs => .bl (bs.any id)
  | .sum => on1 fun v => (asL h v).bind fun xs => (allInt xs).map fun ns => .int ns.sum
  | .str => on1 strV
  | .int => on1 intV
  | .abs => on1 absV
  | .min => on2 minV
  | .max => on2 maxV
  | .tuple => on1 fun v => (asLT h v).map .tup
  | .list => on1 fun v => (asLT h v).map .lst
def isV (t : IsT) : PV → Option Bool
  | .non => some false
  | .bl _ => some (match t with | .bool => true | .int => true | _ => false)
  | .int _ => some (match t with | .int => true | _ => false)
  | .str _ => some (match t with | .str => true | _ => false)
  | .tup _ => some (match t with | .tuple => true | _ => false)
  | .lst _ => some (match t with | .list => true | _ => false)
  | .ref _ => some (match t with | .list => true | _ => false)
  | .scr _ => none
def indexV (h : PHeap) : PV → PV → Res PV
  | .str a, .str b => lift ((Txt.index0 a b).map fun (k : Nat) => .int k) h
  | _, _ => .stuck
def rjustV (h : PHeap) : PV → PV → PV → Res PV
  | .str a, .int i, .str f => if PadOk i = true ∧ f.length = 1 then .ok (.str (Txt.rjustF a i (f.cps.getD 0 0))) h else .stuck
  | _, _, _ => .stuck
def findV (h : PHeap) : PV → PV → Res PV
  | .str a, .str b => .ok (.int (Txt.find a b)) h
  | _, _ => .stuck
def find3V (h : PHeap) : PV → PV → PV → Res PV
  | .str a, .str b, .int i => .ok (.int (Txt.find3 a b i)) h
  | _, _, _ => .stuck
def joinV (h : PHeap) (o v : PV) : Res PV := match o with
  | .str a => match (asL h v).bind allStr with
    | some ys => if (ys.map (·.length)).sum + ys.length * a.length ≤ 16777216 then .ok (.str (Txt.join a ys)) h else .stuck
    | none => .stuck
  | _ => .stuck
def appendV (h : PHeap) (o v : PV) : Res PV := match o with
  | .ref n => match h[n]? with
    | some (.lst xs) => if xs.length < sizeLine then .ok .non (h.set n (.lst (xs ++ [v]))) else .stuck
    | none => .stuck
  | _ => .stuck
def mOn1 (f : PV → Res PV) : List PV → Res PV
  | [v] => f v
  | _ => .stuck
def mOn2 (f : PV → PV → Res PV) : List PV → Res PV
  | [v, u] => f v u
  | _ => .stuck
def bmV (m : BM) (h : PHeap) (o : PV) : List PV → Res PV := match m with
  | .index => mOn1 (indexV h o)
  | .rjust => mOn2 (rjustV h o)
  | .find => mOn1 (findV h o)
  | .find3 => mOn2 (find3V h o)
  | .join => mOn1 (joinV h o)
  | .append => mOn1 (appendV h o)

/-- a receiver of the method's type -/
def rcv (m : BM) (h : PHeap) (x : PV) : Bool := match m, x with
  | .append, .ref n => (match h[n]? with
    | some (.lst _) => true
    | none => false)
  | .append, _ => false
  | _, .str _ => true
  | _, _ => false

/-! ### the small language -/
inductive ITg where
  | name (i : Nat) | tup (is : List Nat)
mutual
inductive IE where
  | var (i : Nat) | int (i : Int) | str (s : Str) | bl (b : Bool) | non | glob (g : Nat)
  | bin (op : Operator) (a b : IE) | neg (a : IE) | cmp (op : CmpOp) (a b : IE) | chain (op op' : CmpOp) (a b c : IE)
  | bool (op : BoolOp) (xs : IEs) | not (a : IE) | ite (c a b : IE)
  | call (f : Nat) (args : IEs) | bcall (f : BF) (args : IEs) | isi (a : IE) (t : IsT) | meth (m : BM) (o : IE) (args : IEs)
  | tup (xs : IEs) | list (mu : Bool) (xs : IEs) | sub (a i : IE) | slice (a : IE) (lo hi : IO)
  | comp (elt : IE) (tg : ITg) (it : II) (ifs : IEs) (own : List (Str × Nat))
inductive IEs where
  | nil | cons (a : IE) (r : IEs)
inductive IO where
  | none | some (e : IE)
inductive II where
  | seq (e : IE) | range1 (a : IE) | range2 (a b : IE) | enum (e : IE)
end
mutual
inductive IS where
  | expr (e : IE) | ret (e : IE) | retN | asg (t : ITg) (e : IE) | par (i j : Nat) (a b : IE) | aug (op : Operator) (i : Nat) (e : IE)
  | ifS (c : IE) (a b : ISs) | forS (t : ITg) (it : II) (body : ISs) | whileS (c : IE) (body : ISs)
  | raise (c : Nat) (msg : Str) | tryS (body : ISs) (hs : IHs) | pass | brk | cont
inductive ISs where
  | nil | cons (s : IS) (r : ISs)
inductive IHs where
  | nil | cons (c : Nat) (suite : ISs) (r : IHs)
end

/-! ### the evaluator -/
structure FnI where
  name : Str
  params : List Str
  N : List Str
  body : ISs
structure Cfg where
  fns : Nat → Option FnI
  globs : Nat → Option (Str × PV)
  excs : Nat → Option Str
  /-- does the clause of the second class take an instance of the first -/
  sub : Nat → Nat → Bool
  fuel : Nat

def setAll : List Nat → List PV → PSt → Option PSt
  | [], [], σ => some σ
  | i :: is, v :: vs, σ => setAll is vs (σ.set i (some v))
  | _, _, _ => none
def bindT (t : ITg) (v : PV) (σ : PSt) : Option PSt := match t with
  | .name i => some (σ.set i (some v))
  | .tup is => match v with
    | .tup vs => setAll is vs σ
    | _ => none
def wipeP (σ : PSt) : List Nat → PSt
  | [] => σ
  | v :: vs => (wipeP σ vs).set v none
def enumL : Nat → List PV → List PV
  | _, [] => []
  | n, x :: r => .tup [.int n, x] :: enumL (n + 1) r
def rangeL (lo : Int) (n : Nat) : List PV := (List.range n).map fun (i : Nat) => .int (lo + i)
/-- what is walked: the items; a list of the heap's is to stay as it is -/
def seqL (h : PHeap) : PV → Option (List PV × Option Nat)
  | .tup xs => some (xs, none)
  | .lst xs => some (xs, none)
  | .str s => some (chars s, none)
  | .ref n => (asL h (.ref n)).map fun xs => (xs, some n)
  | _ => none
def stays (items : List PV) (w : Option Nat) (h : PHeap) : Bool := match w with
  | none => true
  | some n => match h[n]? with
    | some (.lst xs) => PV.beqs xs items
    | none => false
/-- a comprehension's loop; its list stands at n -/
def compL (bind : PV → Option PSt) (tst : PSt → PHeap → Res Bool) (elt : PSt → PHeap → Res PV) (ok : PHeap → Bool) (n : Nat) : List PV → PHeap → Res Unit
  | [], h => if ok h then .ok () h else .stuck
  | x :: r, h => if ok h then (match bind x with
    | none => .stuck
    | some σ1 => (tst σ1 h).bind fun b h1 => match b with
      | true => (elt σ1 h1).bind fun y h2 => (match h2[n]? with
        | some (.lst acc) => if acc.length < sizeLine then compL bind tst elt ok n r (h2.set n (.lst (acc ++ [y]))) else .stuck
        | none => .stuck)
      | false => compL bind tst elt ok n r h1) else .stuck
mutual
/-- no reference from n on -/
def PV.under (n : Nat) : PV → Bool
  | .ref i => decide (i < n)
  | .tup xs => PV.unders n xs
  | .lst xs => PV.unders n xs
  | _ => true
def PV.unders (n : Nat) : List PV → Bool
  | [] => true
  | x :: r => PV.under n x && PV.unders n r
end
/-- the list that has been made, at the heap's end, as a value -/
def compR (h1 h3 : PHeap) : Res PV := match h3[h1.length]? with
  | some (.lst ys) => if heapEq h3 (h1 ++ [.lst ys]) && PV.unders h1.length ys then .ok (.lst ys) h1 else .stuck
  | none => .stuck
def forL (bind : PV → PSt → Option PSt) (body : PSt → PHeap → SRes) (ok : PHeap → Bool) : List PV → PSt → PHeap → SRes
  | [], σ, h => if ok h then .next σ h else .stuck
  | x :: r, σ, h => if ok h then (match bind x σ with
    | none => .stuck
    | some σ1 => match body σ1 h with
      | .next σ2 h2 => forL bind body ok r σ2 h2
      | .cont σ2 h2 => forL bind body ok r σ2 h2
      | .brk σ2 h2 => .next σ2 h2
      | x => x) else .stuck
def whileL (test : PSt → PHeap → Res Bool) (body : PSt → PHeap → SRes) : Nat → PSt → PHeap → SRes
  | 0, _, _ => .stuck
  | m + 1, σ, h => match test σ h with
    | .ok true h1 => (match body σ h1 with
      | .next σ2 h2 => whileL test body m σ2 h2
      | .cont σ2 h2 => whileL test body m σ2 h2
      | .brk σ2 h2 => .next σ2 h2
      | x => x)
    | .ok false h1 => .next σ h1
    | .exc c h1 => .exc c σ h1
    | .stuck => .stuck
def truR (r : Res PV) : Res Bool := r.bind fun v h => lift (truV h v) h
def partV : PV → Option (Option Int)
  | .int i => some (some i)
  | _ => none

section
variable (cfg : Cfg) (call : Nat → List PV → PHeap → Res PV)
mutual
def evE : IE → PSt → PHeap → Res PV
  | .var i, σ, h => match σ[i]? with
    | some (some v) => .ok v h
    | _ => .stuck
  | .int i, _, h => .ok (.int i) h
  | .str s, _, h => .ok (.str s) h
  | .bl b, _, h => .ok (.bl b) h
  | .non, _, h => .ok .non h
  | .glob g, _, h => match cfg.globs g with
    | some (_, v) => .ok v h
    | none => .stuck
  | .bin op a b, σ, h => (evE a σ h).bind fun x h1 => (evE b σ h1).bind fun y h2 => lift (binV op h2 x y) h2
  | .neg a, σ, h => (evE a σ h).bind fun x h1 => match x with
    | .int i => .ok (.int (-i)) h1
    | _ => .stuck
  | .cmp op a b, σ, h => (evE a σ h).bind fun x h1 => (evE b σ h1).bind fun y h2 => lift ((cmpV op h2 x y).map .bl) h2
  | .chain op op' a b c, σ, h => (evE a σ h).bind fun x h1 => (evE b σ h1).bind fun y h2 => (lift (cmpV op h2 x y) h2).bind fun k h3 => match k with
    | true => (evE c σ h3).bind fun z h4 => lift ((cmpV op' h4 y z).map .bl) h4
    | false => .ok (.bl false) h3
  | .bool op xs, σ, h => evB op xs σ h
  | .not a, σ, h => (evE a σ h).bind fun x h1 => match x with
    | .bl b => .ok (.bl (!b)) h1
    | _ => .stuck
  | .ite c a b, σ, h => (truR (evE c σ h)).bind fun k h1 => match k with
    | true => evE a σ h1
    | false => evE b σ h1
  | .call f args, σ, h => (evEs args σ h).bind fun vs h1 => call f vs h1
  | .bcall f args, σ, h => (evEs args σ h).bind fun vs h1 => lift (bfV f h1 vs) h1
  | .isi a t, σ, h => (evE a σ h).bind fun x h1 => lift ((isV t x).map .bl) h1
  | .meth m o args, σ, h => (evE o σ h).bind fun x h1 => if rcv m h1 x then (evEs args σ h1).bind fun vs h2 => bmV m h2 x vs else .stuck
  | .tup xs, σ, h => (evEs xs σ h).bind fun vs h1 => .ok (.tup vs) h1
  | .list mu xs, σ, h => (evEs xs σ h).bind fun vs h1 => match mu with
    | true => .ok (.ref h1.length) (h1 ++ [.lst vs])
    | false => .ok (.lst vs) h1
  | .sub a i, σ, h => (evE a σ h).bind fun x h1 => (evE i σ h1).bind fun y h2 => lift (subsV h2 x y) h2
  | .slice a lo hi, σ, h => (evE a σ h).bind fun x h1 => (evO lo σ h1).bind fun l h2 => (evO hi σ h2).bind fun u h3 => lift (sliceV h3 x l u) h3
  | .comp elt tg it ifs own, σ, h => (evI it σ h).bind fun w h1 =>
      ((compL (fun x => bindT tg x (wipeP σ (own.map (·.2)))) (fun σ1 h2 => evT ifs σ1 h2) (fun σ1 h2 => evE elt σ1 h2) (stays w.1 w.2) h1.length w.1 (h1 ++ [.lst []])).calm).bind fun _ h3 => compR h1 h3
def evEs : IEs → PSt → PHeap → Res (List PV)
  | .nil, _, h => .ok [] h
  | .cons a r, σ, h => (evE a σ h).bind fun v h1 => (evEs r σ h1).bind fun vs h2 => .ok (v :: vs) h2
/-- and, or over truth values -/
def evB : BoolOp → IEs → PSt → PHeap → Res PV
  | _, .nil, _, _ => .stuck
  | op, .cons a r, σ, h => (evE a σ h).bind fun v h1 => match v with
    | .bl b => (match r with
      | .nil => .ok (.bl b) h1
      | .cons _ _ => (match op, b with
        | .And, true => evB op r σ h1
        | .Or, false => evB op r σ h1
        | _, b => .ok (.bl b) h1))
    | _ => .stuck
/-- a comprehension's tests -/
def evT : IEs → PSt → PHeap → Res Bool
  | .nil, _, h => .ok true h
  | .cons a .nil, σ, h => truR (evE a σ h)
  | .cons _ (.cons _ _), _, _ => .stuck
def evO : IO → PSt → PHeap → Res (Option Int)
  | .none, _, h => .ok none h
  | .some e, σ, h => (evE e σ h).bind fun v h1 => match v with
    | .int i => .ok (some i) h1
    | _ => .stuck
def evI : II → PSt → PHeap → Res (List PV × Option Nat)
  | .seq e, σ, h => (evE e σ h).bind fun v h1 => lift (seqL h1 v) h1
  | .range1 a, σ, h => (evE a σ h).bind fun v h1 => match v with
    | .int j => if -(2 ^ 62) ≤ j ∧ j < 2 ^ 62 then .ok (rangeL 0 j.toNat, none) h1 else .stuck
    | _ => .stuck
  | .range2 a b, σ, h => (evE a σ h).bind fun v h1 => (evE b σ h1).bind fun u h2 => match v, u with
    | .int i, .int j => if -(2 ^ 62) ≤ i ∧ i < 2 ^ 62 ∧ -(2 ^ 62) ≤ j ∧ j < 2 ^ 62 then .ok (rangeL i (j - i).toNat, none) h2 else .stuck
    | _, _ => .stuck
  | .enum e, σ, h => (evE e σ h).bind fun v h1 => (lift (seqL h1 v) h1).bind fun w h2 => match w.2 with
    | none => .ok (enumL 0 w.1, none) h2
    | some _ => .stuck
end
mutual
def evS : IS → PSt → PHeap → SRes
  | .expr e, σ, h => match evE cfg call e σ h with
    | .ok _ h1 => .next σ h1
    | .exc c h1 => .exc c σ h1
    | .stuck => .stuck
  | .ret e, σ, h => match evE cfg call e σ h with
    | .ok v h1 => .ret v h1
    | .exc c h1 => .exc c σ h1
    | .stuck => .stuck
  | .retN, _, h => .ret .non h
  | .asg t e, σ, h => match evE cfg call e σ h with
    | .ok v h1 => (match bindT t v σ with
      | some σ1 => .next σ1 h1
      | none => .stuck)
    | .exc c h1 => .exc c σ h1
    | .stuck => .stuck
  | .par i j a b, σ, h => match (evE cfg call a σ h).bind fun x h1 => (evE cfg call b σ h1).bind fun y h2 => .ok (x, y) h2 with
    | .ok v h1 => .next ((σ.set i (some v.1)).set j (some v.2)) h1
    | .exc c h1 => .exc c σ h1
    | .stuck => .stuck
  | .aug op i e, σ, h => match σ[i]? with
    | some (some x) => (match evE cfg call e σ h with
      | .ok y h1 => (match augV op x y with
        | some z => .next (σ.set i (some z)) h1
        | none => .stuck)
      | .exc c h1 => .exc c σ h1
      | .stuck => .stuck)
    | _ => .stuck
  | .ifS c a b, σ, h => match truR (evE cfg call c σ h) with
    | .ok true h1 => evSs a σ h1
    | .ok false h1 => evSs b σ h1
    | .exc c h1 => .exc c σ h1
    | .stuck => .stuck
  | .forS t it body, σ, h => match evI cfg call it σ h with
    | .ok w h1 => forL (bindT t) (fun σ1 h2 => evSs body σ1 h2) (stays w.1 w.2) w.1 σ h1
    | .exc c h1 => .exc c σ h1
    | .stuck => .stuck
  | .whileS c body, σ, h => whileL (fun σ1 h1 => truR (evE cfg call c σ1 h1)) (fun σ1 h1 => evSs body σ1 h1) cfg.fuel σ h
  | .raise c _, σ, h => .exc c σ h
  | .tryS body hs, σ, h => match evSs body σ h with
    | .exc c σ1 h1 => evH c hs σ1 h1
    | x => x
  | .pass, σ, h => .next σ h
  | .brk, σ, h => .brk σ h
  | .cont, σ, h => .cont σ h
def evSs : ISs → PSt → PHeap → SRes
  | .nil, σ, h => .next σ h
  | .cons s r, σ, h => match evS s σ h with
    | .next σ1 h1 => evSs r σ1 h1
    | x => x
/-- the clauses, one after another -/
def evH (c : Nat) : IHs → PSt → PHeap → SRes
  | .nil, σ, h => .exc c σ h
  | .cons c' s r, σ, h => if (cfg.excs c).isSome = true then (if cfg.sub c c' then (evSs s σ h).calm else evH c r σ h) else .stuck
end
end
def startP (N : List Str) (vs : List PV) : PSt := vs.map some ++ List.replicate (N.length - vs.length) none
def run (cfg : Cfg) : Nat → Nat → List PV → PHeap → Res PV
  | 0, _, _, _ => .stuck
  | k + 1, f, vs, h => match cfg.fns f with
    | none => .stuck
    | some F => if vs.length = F.params.length then exitR h (evSs cfg (run cfg k) F.body (startP F.N vs) h) else .stuck
end Fx
end
section
set_option Elab.async false
set_option linter.all false
set_option maxRecDepth 100000
set_option maxHeartbeats 2000000
/-! Fx, part 2: what values and heaps stand for. -/
namespace Fx
open PySem L2

example (cfg : Cfg) (call : Nat → List PV → PHeap → Res PV) (σ : PSt) (h : PHeap) : evE cfg call (.bin .Add (.int 3) (.int 4)) σ h = .ok (.int 7) h := rfl

/-- a tuple of the written part -/
def KTup (K : PySem.W.Frag) (a : Addr) (xs : List V) : Prop :=
  ∃ (o : Obj) (its : Array Value) (n : Nat), K.lookup a = some o ∧ o.cls = .type "tuple" ∧ o.data = .seq its n ∧ its.size ≤ sizeLine ∧ Vals xs its.toList
def SqI (K : PySem.W.Frag) (ρ : List Addr) (H : Hp) (a : Addr) (xs : List V) : Prop := (a ∉ ρ ∧ H a = some (.tup xs)) ∨ KTup K a xs
theorem SqI.t {K : PySem.W.Frag} {ρ : List Addr} {H : Hp} {a : Addr} {xs : List V} (h : SqI K ρ H a xs) : SqT K H a xs := by
  rcases h with ⟨_, h⟩ | h
  · exact .of h
  · exact .inr h
def KLst (K : PySem.W.Frag) (a : Addr) (xs : List V) : Prop :=
  ∃ (o : Obj) (its : Array Value) (n : Nat), K.lookup a = some o ∧ o.cls = .type "list" ∧ o.dict = none ∧ o.data = .seq its n ∧ its.size ≤ sizeLine ∧ Vals xs its.toList
def SqS (K : PySem.W.Frag) (ρ : List Addr) (H : Hp) (a : Addr) (xs : List V) : Prop := (a ∉ ρ ∧ Rd H a (.lst xs)) ∨ KLst K a xs
theorem SqS.l {K : PySem.W.Frag} {ρ : List Addr} {H : Hp} {a : Addr} {xs : List V} (h : SqS K ρ H a xs) : SqL K H a xs := by
  rcases h with ⟨_, h⟩ | h
  · exact .inl h
  · exact .inr h
mutual
inductive Rep (K : PySem.W.Frag) (ρ : List Addr) (H : Hp) : PV → V → Prop
  | non : Rep K ρ H .non .non
  | bl (b : Bool) : Rep K ρ H (.bl b) (.bl b)
  | int (i : Int) : Rep K ρ H (.int i) (.int i)
  | str (s : Str) : Rep K ρ H (.str s) (.str s)
  | tup {xs : List PV} {vs : List V} {a : Addr} : SqI K ρ H a vs → Reps K ρ H xs vs → Rep K ρ H (.tup xs) (.ref a)
  | lst {xs : List PV} {vs : List V} {a : Addr} : a ∉ ρ → H a = some (.lst vs) → Reps K ρ H xs vs → Rep K ρ H (.lst xs) (.ref a)
  | scr {ns : List Int} {a : Addr} : SqS K ρ H a (ns.map V.int) → Rep K ρ H (.scr ns) (.ref a)
  | ref {i : Nat} {a : Addr} : ρ[i]? = some a → Rep K ρ H (.ref i) (.ref a)
inductive Reps (K : PySem.W.Frag) (ρ : List Addr) (H : Hp) : List PV → List V → Prop
  | nil : Reps K ρ H [] []
  | cons {x : PV} {v : V} {xs : List PV} {vs : List V} : Rep K ρ H x v → Reps K ρ H xs vs → Reps K ρ H (x :: xs) (v :: vs)
end

/-- on from (ρ, H): new objects at new places; what is no object of ρ's stands as it stood -/
structure Step (ρ : List Addr) (H : Hp) (ρ' : List Addr) (H' : Hp) : Prop where
  ext : ∃ e, ρ' = ρ ++ e ∧ ∀ a ∈ e, H a = none
  keep : ∀ a o, a ∉ ρ → H a = some o → H' a = some o
  dom : ∀ a ∈ ρ', ∃ o, H' a = some o
theorem Step.refl {ρ : List Addr} {H : Hp} (d : ∀ a ∈ ρ, ∃ o, H a = some o) : Step ρ H ρ H := ⟨⟨[], by simp, by simp⟩, fun _ _ _ e => e, d⟩
theorem Step.sub {ρ ρ' : List Addr} {H H' : Hp} (s : Step ρ H ρ' H') : ∀ a ∈ ρ, a ∈ ρ' := fun a h => by
  obtain ⟨e, rfl, _⟩ := s.ext
  exact List.mem_append_left _ h
theorem Step.out {ρ ρ' : List Addr} {H H' : Hp} (s : Step ρ H ρ' H') {a : Addr} {o : HO} (n : a ∉ ρ) (e : H a = some o) : a ∉ ρ' := fun h => by
  obtain ⟨x, rfl, q⟩ := s.ext
  rcases List.mem_append.mp h with h | h
  · exact n h
  · rw [q a h] at e; cases e
theorem Step.trans {ρ ρ1 ρ2 : List Addr} {H H1 H2 : Hp} (s : Step ρ H ρ1 H1) (t : Step ρ1 H1 ρ2 H2) : Step ρ H ρ2 H2 := by
  refine ⟨?_, fun a o n e => t.keep a o (s.out n e) (s.keep a o n e), t.dom⟩
  obtain ⟨e, rfl, q⟩ := s.ext
  obtain ⟨e2, rfl, q2⟩ := t.ext
  refine ⟨e ++ e2, by rw [List.append_assoc], fun a h => ?_⟩
  rcases List.mem_append.mp h with h | h
  · exact q a h
  · cases z : H a with
    | none => rfl
    | some o =>
      by_cases m : a ∈ ρ
      · obtain ⟨u, hu⟩ := s.dom a (List.mem_append_left _ m)
        rw [q2 a h] at hu; cases hu
      · have := s.keep a o m z
        rw [q2 a h] at this; cases this
theorem Step.get {ρ ρ' : List Addr} {H H' : Hp} (s : Step ρ H ρ' H') {i : Nat} {a : Addr} (e : ρ[i]? = some a) : ρ'[i]? = some a := by
  obtain ⟨x, rfl, _⟩ := s.ext
  rw [List.getElem?_append_left (List.getElem?_eq_some_iff.mp e).1]
  exact e
/-- a new object -/
theorem Step.new {ρ : List Addr} {H : Hp} {p : Addr} {o : HO} (d : ∀ a ∈ ρ, ∃ o, H a = some o) (hp : H p = none) : Step ρ H ρ (upd H p o) := by
  refine ⟨⟨[], by simp, by simp⟩, fun a u _ e => by rw [upd_ne (ne_of_none e hp)]; exact e, fun a h => ?_⟩
  obtain ⟨u, e⟩ := d a h
  exact ⟨u, by rw [upd_ne (ne_of_none e hp)]; exact e⟩
theorem Step.own {ρ : List Addr} {H : Hp} {p : Addr} {o : HO} (d : ∀ a ∈ ρ, ∃ o, H a = some o) (hp : H p = none) : Step ρ H (ρ ++ [p]) (upd H p o) := by
  refine ⟨⟨[p], rfl, by simpa using hp⟩, fun a u _ e => by rw [upd_ne (ne_of_none e hp)]; exact e, fun a h => ?_⟩
  rcases List.mem_append.mp h with h | h
  · obtain ⟨u, e⟩ := d a h
    exact ⟨u, by rw [upd_ne (ne_of_none e hp)]; exact e⟩
  · simp at h; subst h; exact ⟨_, upd_same⟩
theorem Step.set {ρ : List Addr} {H : Hp} {p : Addr} {o : HO} (d : ∀ a ∈ ρ, ∃ o, H a = some o) (hp : p ∈ ρ) : Step ρ H ρ (upd H p o) := by
  refine ⟨⟨[], by simp, by simp⟩, fun a u n e => by rw [upd_ne (fun z => n (by rw [z]; exact hp))]; exact e, fun a h => ?_⟩
  by_cases e : a = p
  · subst e; exact ⟨_, upd_same⟩
  · obtain ⟨u, q⟩ := d a h
    exact ⟨u, by rw [upd_ne e]; exact q⟩
theorem Step.same {ρ : List Addr} {H H' : Hp} (d : ∀ a ∈ ρ, ∃ o, H a = some o) (s : ∀ a o, H a = some o → H' a = some o) : Step ρ H ρ H' :=
  ⟨⟨[], by simp, by simp⟩, fun a o _ e => s a o e, fun a h => let ⟨o, e⟩ := d a h; ⟨o, s a o e⟩⟩

section
variable {K : PySem.W.Frag} {ρ ρ' : List Addr} {H H' : Hp}
theorem Rd.step {a : Addr} {u : HO} (s : Step ρ H ρ' H') (n : a ∉ ρ) (h : Rd H a u) : Rd H' a u := by
  rcases h with h | ⟨o, h⟩
  · exact .inl (s.keep _ _ n h)
  · exact .inr ⟨o, s.keep _ _ n h⟩
mutual
theorem Rep.mono (s : Step ρ H ρ' H') : ∀ {x : PV} {v : V}, Rep K ρ H x v → Rep K ρ' H' x v
  | _, _, .non => .non
  | _, _, .bl b => .bl b
  | _, _, .int i => .int i
  | _, _, .str x => .str x
  | _, _, .tup q r => .tup (by
      rcases q with ⟨n, e⟩ | q
      · exact .inl ⟨s.out n e, s.keep _ _ n e⟩
      · exact .inr q) (Reps.mono s r)
  | _, _, .lst n e r => .lst (s.out n e) (s.keep _ _ n e) (Reps.mono s r)
  | _, _, .scr q => .scr (by
      rcases q with ⟨n, e | ⟨o, e⟩⟩ | q
      · exact .inl ⟨s.out n e, .inl (s.keep _ _ n e)⟩
      · exact .inl ⟨s.out n e, .inr ⟨o, s.keep _ _ n e⟩⟩
      · exact .inr q)
  | _, _, .ref e => .ref (s.get e)
theorem Reps.mono (s : Step ρ H ρ' H') : ∀ {x : List PV} {v : List V}, Reps K ρ H x v → Reps K ρ' H' x v
  | _, _, .nil => .nil
  | _, _, .cons r t => .cons (Rep.mono s r) (Reps.mono s t)
end
theorem Reps.length : ∀ {x : List PV} {v : List V}, Reps K ρ H x v → x.length = v.length
  | _, _, .nil => rfl
  | _, _, .cons _ t => by simp [Reps.length t]
theorem Reps.get : ∀ {xs : List PV} {vs : List V} {i : Nat} {x : PV}, Reps K ρ H xs vs → xs[i]? = some x → ∃ v, vs[i]? = some v ∧ Rep K ρ H x v
  | _, _, _, _, .nil, e => by simp at e
  | _, _, 0, x, .cons r _, e => by simp at e; subst e; exact ⟨_, rfl, r⟩
  | _, _, i + 1, x, .cons _ t, e => by
    obtain ⟨v, h1, h2⟩ := Reps.get (i := i) (x := x) t (by simpa using e)
    exact ⟨v, by simpa using h1, h2⟩
theorem Reps.getV : ∀ {xs : List PV} {vs : List V} {i : Nat} {v : V}, Reps K ρ H xs vs → vs[i]? = some v → ∃ x, xs[i]? = some x ∧ Rep K ρ H x v
  | _, _, _, _, .nil, e => by simp at e
  | _, _, 0, x, .cons r _, e => by simp at e; subst e; exact ⟨_, rfl, r⟩
  | _, _, i + 1, x, .cons _ t, e => by
    obtain ⟨v, h1, h2⟩ := Reps.getV (i := i) (v := x) t (by simpa using e)
    exact ⟨v, by simpa using h1, h2⟩
theorem Reps.append : ∀ {xs ys : List PV} {vs ws : List V}, Reps K ρ H xs vs → Reps K ρ H ys ws → Reps K ρ H (xs ++ ys) (vs ++ ws)
  | _, _, _, _, .nil, s => s
  | _, _, _, _, .cons r t, s => .cons r (Reps.append t s)
theorem Reps.take : ∀ {xs : List PV} {vs : List V} (n : Nat), Reps K ρ H xs vs → Reps K ρ H (xs.take n) (vs.take n)
  | _, _, 0, _ => .nil
  | _, _, _ + 1, .nil => .nil
  | _, _, n + 1, .cons r t => .cons r (Reps.take n t)
theorem Reps.drop : ∀ {xs : List PV} {vs : List V} (n : Nat), Reps K ρ H xs vs → Reps K ρ H (xs.drop n) (vs.drop n)
  | _, _, 0, r => r
  | _, _, _ + 1, .nil => .nil
  | _, _, n + 1, .cons _ t => Reps.drop n t
theorem Reps.rep {xs : List PV} {vs : List V} (h : Reps K ρ H xs vs) : ∀ k : Nat, Reps K ρ H (List.replicate k xs).flatten (List.replicate k vs).flatten
  | 0 => .nil
  | k + 1 => by
    rw [List.replicate_succ, List.replicate_succ, List.flatten_cons, List.flatten_cons]
    exact h.append (Reps.rep h k)
theorem Reps.ofInts : ∀ ns : List Int, Reps K ρ H (ns.map PV.int) (ns.map V.int)
  | [] => .nil
  | n :: r => .cons (.int n) (Reps.ofInts r)

/-- a thing of the heap -/
inductive ObjR (K : PySem.W.Frag) (ρ : List Addr) (H : Hp) : Ob → Addr → Prop
  | lst {xs : List PV} {vs : List V} {a : Addr} : H a = some (.lst vs) → Reps K ρ H xs vs → ObjR K ρ H (.lst xs) a
theorem ObjR.mono {o : Ob} {a : Addr} (s : Step ρ H ρ' H') (e : H' a = H a) (h : ObjR K ρ H o a) : ObjR K ρ' H' o a := by
  cases h with
  | lst q r => exact .lst (e.trans q) (r.mono s)
theorem ObjR.dom {o : Ob} {a : Addr} (h : ObjR K ρ H o a) : ∃ u, H a = some u := by
  cases h with
  | lst q _ => exact ⟨_, q⟩
structure HR (K : PySem.W.Frag) (ρ : List Addr) (H : Hp) (h : PHeap) : Prop where
  len : ρ.length = h.length
  nd : ρ.Nodup
  obj : ∀ (i : Nat) (o : Ob) (a : Addr), h[i]? = some o → ρ[i]? = some a → ObjR K ρ H o a
theorem HR.dom {h : PHeap} (r : HR K ρ H h) : ∀ a ∈ ρ, ∃ o, H a = some o := fun a m => by
  obtain ⟨i, hi⟩ := List.mem_iff_getElem?.mp m
  have hl : i < h.length := by rw [← r.len]; exact (List.getElem?_eq_some_iff.mp hi).1
  exact (r.obj i h[i] a (List.getElem?_eq_getElem hl) hi).dom
theorem HR.step {h : PHeap} (r : HR K ρ H h) : Step ρ H ρ H := .refl r.dom
theorem HR.same {h : PHeap} (r : HR K ρ H h) (s : ∀ a o, H a = some o → H' a = some o) : HR K ρ H' h := by
  refine ⟨r.len, r.nd, fun i o a e q => ?_⟩
  have x := r.obj i o a e q
  obtain ⟨u, hu⟩ := x.dom
  exact x.mono (.same r.dom s) (by rw [hu, s a u hu])
theorem HR.new {h : PHeap} {p : Addr} {o : HO} (r : HR K ρ H h) (hp : H p = none) : HR K ρ (upd H p o) h :=
  r.same fun a u e => by rw [upd_ne (ne_of_none e hp)]; exact e
theorem HR.alloc {h : PHeap} {p : Addr} {xs : List PV} {vs : List V} (r : HR K ρ H h) (hp : H p = none) (q : Reps K ρ H xs vs) : HR K (ρ ++ [p]) (upd H p (.lst vs)) (h ++ [.lst xs]) := by
  have st := Step.own (o := HO.lst vs) r.dom hp
  have np : p ∉ ρ := fun m => by obtain ⟨o, e⟩ := r.dom p m; rw [hp] at e; cases e
  refine ⟨by simp [r.len], ?_, fun i o a e q' => ?_⟩
  · rw [List.nodup_append]
    exact ⟨r.nd, by simp, fun a ha b hb => by simp at hb; subst hb; intro z; exact np (z ▸ ha)⟩
  · by_cases hi : i < h.length
    · rw [List.getElem?_append_left hi] at e
      rw [List.getElem?_append_left (by rw [r.len]; exact hi)] at q'
      have x := r.obj i o a e q'
      obtain ⟨u, hu⟩ := x.dom
      exact x.mono st (upd_ne (ne_of_none hu hp))
    · have hl : i < (h ++ [Ob.lst xs]).length := (List.getElem?_eq_some_iff.mp e).1
      simp at hl
      have ei : i = h.length := by omega
      subst ei
      rw [List.getElem?_append_right (Nat.le_refl _)] at e
      rw [List.getElem?_append_right (by rw [r.len]; exact Nat.le_refl _)] at q'
      simp [r.len] at e q'
      subst e q'
      exact .lst upd_same (q.mono st)
theorem HR.set {h : PHeap} {p : Addr} {n : Nat} {xs : List PV} {vs : List V} (r : HR K ρ H h) (hp : ρ[n]? = some p) (q : Reps K ρ H xs vs) : HR K ρ (upd H p (.lst vs)) (h.set n (.lst xs)) := by
  have mp : p ∈ ρ := List.mem_iff_getElem?.mpr ⟨n, hp⟩
  have st := Step.set (o := HO.lst vs) r.dom mp
  refine ⟨by simp [r.len], r.nd, fun i o a e q' => ?_⟩
  by_cases hi : n = i
  · subst hi
    have ha : a = p := by rw [hp] at q'; exact (Option.some.inj q').symm
    have hl : n < h.length := by rw [← r.len]; exact (List.getElem?_eq_some_iff.mp hp).1
    rw [List.getElem?_set_self hl] at e
    cases e
    subst ha
    exact .lst upd_same (q.mono st)
  · rw [List.getElem?_set_ne hi] at e
    have x := r.obj i o a e q'
    refine x.mono st (upd_ne fun z => hi ?_)
    subst z
    exact ((List.getElem?_inj (List.getElem?_eq_some_iff.mp hp).1 r.nd).mp (hp.trans q'.symm))
theorem HR.lst {h : PHeap} {n : Nat} {xs : List PV} (r : HR K ρ H h) (e : h[n]? = some (.lst xs)) {a : Addr} (q : ρ[n]? = some a) : ∃ vs, H a = some (.lst vs) ∧ Reps K ρ H xs vs := by
  cases r.obj n _ a e q with
  | lst q r => exact ⟨_, q, r⟩
end
end Fx
end
section
set_option Elab.async false
set_option linter.all false
set_option maxRecDepth 100000
set_option maxHeartbeats 4000000
/-! Fx, part 3: operators by values. -/
namespace Fx
open PySem L2 PySem.Spec PyProof.Rows

section
variable {K : PySem.W.Frag} {ρ ρ' : List Addr} {H H' : Hp} {h : PHeap}

/-- what is wanted of a pure answer z -/
def Wants (K : PySem.W.Frag) (ρ : List Addr) (H : Hp) (h : PHeap) (z : PV) (Q : VK) : Prop :=
  ∀ H' w, Step ρ H ρ H' → HR K ρ H' h → Rep K ρ H' z w → Q w H'
theorem Wants.here {z : PV} {w : V} {Q : VK} (q : Wants K ρ H h z Q) (r : HR K ρ H h) (z : Rep K ρ H z w) : Q w H := q H w r.step r z
theorem Wants.tup {xs : List PV} {vs : List V} {Q : VK} (q : Wants K ρ H h (.tup xs) Q) (r : HR K ρ H h) (z : Reps K ρ H xs vs) : ∀ p, H p = none → Q (.ref p) (upd H p (.tup vs)) := fun p hp => by
  have st := Step.new (o := HO.tup vs) r.dom hp
  have np : p ∉ ρ := fun m => by obtain ⟨o, e⟩ := r.dom p m; rw [hp] at e; cases e
  exact q _ _ st (r.new hp) (.tup (.inl ⟨np, upd_same⟩) (z.mono st))
theorem Wants.lst {xs : List PV} {vs : List V} {Q : VK} (q : Wants K ρ H h (.lst xs) Q) (r : HR K ρ H h) (z : Reps K ρ H xs vs) : ∀ p, H p = none → Q (.ref p) (upd H p (.lst vs)) := fun p hp => by
  have st := Step.new (o := HO.lst vs) r.dom hp
  have np : p ∉ ρ := fun m => by obtain ⟨o, e⟩ := r.dom p m; rw [hp] at e; cases e
  exact q _ _ st (r.new hp) (.lst np upd_same (z.mono st))

/-- a list as it stands, told -/
theorem asL_of {x : PV} {v : V} {xs : List PV} (r : HR K ρ H h) (q : Rep K ρ H x v) (e : asL h x = some xs) : ∃ a vs, v = .ref a ∧ H a = some (.lst vs) ∧ Reps K ρ H xs vs := by
  cases q with
  | lst n e2 r2 =>
    simp [asL] at e; subst e
    exact ⟨_, _, rfl, e2, r2⟩
  | ref e2 =>
    rename_i i a
    cases z : h[i]? with
    | none => simp [asL, z] at e
    | some o =>
      cases o with
      | lst ys =>
        simp [asL, z] at e; subst e
        obtain ⟨vs, h1, h2⟩ := r.lst z e2
        exact ⟨a, vs, rfl, h1, h2⟩
  | _ => simp [asL] at e
theorem asLT_of {x : PV} {v : V} {xs : List PV} (r : HR K ρ H h) (q : Rep K ρ H x v) (e : asLT h x = some xs) : ∃ a vs, v = .ref a ∧ (SqL K H a vs ∨ SqT K H a vs) ∧ Reps K ρ H xs vs := by
  cases q with
  | tup q2 r2 =>
    simp [asLT] at e; subst e
    exact ⟨_, _, rfl, .inr q2.t, r2⟩
  | lst n e2 r2 =>
    obtain ⟨a, vs, h1, h2, h3⟩ := asL_of r (.lst n e2 r2) (xs := xs) (by simpa [asLT] using e)
    exact ⟨a, vs, h1, .inl (.of h2), h3⟩
  | ref e2 =>
    obtain ⟨a, vs, h1, h2, h3⟩ := asL_of r (.ref e2) (xs := xs) (by simpa [asLT] using e)
    exact ⟨a, vs, h1, .inl (.of h2), h3⟩
  | _ => simp [asLT, asL] at e
mutual
theorem toD_of : ∀ {x : PV} {v : V} {d : PyData}, Rep K ρ H x v → toD x = some d → Dp K H v d
  | _, _, _, .non, e => by simp [toD] at e; subst e; exact .non
  | _, _, _, .bl b, e => by simp [toD] at e; subst e; exact .bl b
  | _, _, _, .int i, e => by simp [toD] at e; subst e; exact .int i
  | _, _, _, .str s, e => by simp [toD] at e; subst e; exact .str s
  | .tup xs, _, _, .tup q r, e => by
    simp only [toD] at e
    cases z : toDs xs with
    | none => simp [z] at e
    | some ds => simp [z] at e; subst e; exact .tup q.t (toDs_of r z)
  | .lst xs, _, _, .lst n q r, e => by
    simp only [toD] at e
    cases z : toDs xs with
    | none => simp [z] at e
    | some ds => simp [z] at e; subst e; exact .lst (.of q) (toDs_of r z)
  | _, _, _, .scr _, e => by simp [toD] at e
  | _, _, _, .ref _, e => by simp [toD] at e
theorem toDs_of : ∀ {x : List PV} {v : List V} {d : List PyData}, Reps K ρ H x v → toDs x = some d → DpAll K H v d
  | _, _, _, .nil, e => by simp [toDs] at e; subst e; exact .nil
  | x :: xs, _, _, .cons r t, e => by
    simp only [toDs] at e
    cases z : toD x with
    | none => simp [z] at e
    | some d =>
      cases z2 : toDs xs with
      | none => simp [z, z2] at e
      | some ds => simp [z, z2] at e; subst e; exact .cons (toD_of r z) (toDs_of t z2)
end
theorem toDH_of {x : PV} {v : V} {d : PyData} (r : HR K ρ H h) (q : Rep K ρ H x v) (e : toDH h x = some d) : Dp K H v d := by
  cases q with
  | ref e2 =>
    rename_i i a
    simp only [toDH] at e
    cases z : asL h (.ref i) with
    | none => simp [z] at e
    | some xs =>
      simp only [z, Option.bind_some] at e
      cases z2 : toDs xs with
      | none => simp [z2] at e
      | some ds =>
        simp [z2] at e; subst e
        obtain ⟨a', vs, h1, h2, h3⟩ := asL_of r (.ref e2) z
        cases h1
        exact .lst (.of h2) (toDs_of h3 z2)
  | non => exact toD_of (ρ := ρ) .non (by simpa [toDH] using e)
  | bl b => exact toD_of (ρ := ρ) (.bl b) (by simpa [toDH] using e)
  | int b => exact toD_of (ρ := ρ) (.int b) (by simpa [toDH] using e)
  | str b => exact toD_of (ρ := ρ) (.str b) (by simpa [toDH] using e)
  | tup a b => exact toD_of (.tup a b) (by simpa [toDH] using e)
  | lst a b c => exact toD_of (.lst a b c) (by simpa [toDH] using e)
  | scr a => exact toD_of (.scr a) (by simpa [toDH] using e)

/-- an operation on two values, by their Fx values -/
def rB (K : PySem.W.Frag) (f : PHeap → PV → PV → Option PV) : R2 := fun v u H Q => ∃ ρ h x y z, HR K ρ H h ∧ Rep K ρ H x v ∧ Rep K ρ H y u ∧ f h x y = some z ∧ Wants K ρ H h z Q
end

section
variable {X : Cx}
theorem op_addV (hu : X.A.units + 65 < cLine) : OpR X (binaryOp .Add) (rB X.K addV) := by
  intro pins s σ H v u v' u' Q I r1 r2 ⟨ρ, h, x, y, z, hr, p, q, e, w⟩
  unfold addV at e
  split at e
  · cases e; cases p; cases q
    exact op_add pins s σ H _ _ _ _ Q I r1 r2 ⟨_, _, rfl, rfl, w.here hr (.int _)⟩
  · split at e
    · cases e; cases p; cases q
      exact op_add_str pins s σ H _ _ _ _ Q I r1 r2 ⟨_, _, rfl, rfl, by assumption, w.here hr (.str _)⟩
    · cases e
  · rename_i xs ys
    split at e
    · cases e
      cases p with
      | tup qa ra =>
        cases q with
        | tup qb rb =>
          rename_i hl va a vb b
          refine op_catA pins s σ H _ _ _ _ Q I r1 r2 ⟨_, _, _, _, rfl, rfl, qa.t, qb.t, by rw [← ra.length, ← rb.length]; exact hl, fun e0 => ?_, fun _ e0 => ?_, fun _ _ => w.tup hr (ra.append rb)⟩
          · subst e0
            cases ra
            exact w.here hr (.tup qb rb)
          · subst e0
            cases rb
            exact w.here hr (.tup qa (by simpa using ra))
    · cases e
  · split at e
    · split at e
      · cases e
        rename_i ea eb hl
        obtain ⟨a, va, rfl, ha, ra⟩ := asL_of hr p ea
        obtain ⟨b, vb, rfl, hb, rb⟩ := asL_of hr q eb
        exact op_cat pins s σ H _ _ _ _ Q I r1 r2 ⟨_, _, _, _, rfl, rfl, ha, hb, by rw [← ra.length, ← rb.length]; exact hl, w.lst hr (ra.append rb)⟩
      · cases e
    · cases e
theorem op_subV : OpR X (binaryOp .Sub) (rB X.K fun _ => subV) := by
  intro pins s σ H v u v' u' Q I r1 r2 ⟨ρ, h, x, y, z, hr, p, q, e, w⟩
  have e : subV x y = some z := e
  unfold subV at e
  split at e
  · cases e; cases p; cases q
    exact op_sub pins s σ H _ _ _ _ Q I r1 r2 ⟨_, _, rfl, rfl, w.here hr (.int _)⟩
  · cases e
theorem op_fdivV : OpR X (binaryOp .FloorDiv) (rB X.K fun _ => fdivV) := by
  intro pins s σ H v u v' u' Q I r1 r2 ⟨ρ, h, x, y, z, hr, p, q, e, w⟩
  have e : fdivV x y = some z := e
  unfold fdivV at e
  split at e
  · split at e
    · cases e; cases p; cases q
      exact op_fdiv pins s σ H _ _ _ _ Q I r1 r2 ⟨_, _, rfl, rfl, by assumption, w.here hr (.int _)⟩
    · cases e
  · cases e
theorem op_modV : OpR X (binaryOp .Mod) (rB X.K fun _ => modV) := by
  intro pins s σ H v u v' u' Q I r1 r2 ⟨ρ, h, x, y, z, hr, p, q, e, w⟩
  have e : modV x y = some z := e
  unfold modV at e
  split at e
  · split at e
    · cases e; cases p; cases q
      exact op_mod pins s σ H _ _ _ _ Q I r1 r2 ⟨_, _, rfl, rfl, by assumption, w.here hr (.int _)⟩
    · cases e
  · cases e
theorem op_powV : OpR X (binaryOp .Pow) (rB X.K fun _ => powV) := by
  intro pins s σ H v u v' u' Q I r1 r2 ⟨ρ, h, x, y, z, hr, p, q, e, w⟩
  have e : powV x y = some z := e
  unfold powV at e
  split at e
  · split at e
    · cases e; cases p; cases q
      exact op_pow pins s σ H _ _ _ _ Q I r1 r2 ⟨_, _, rfl, rfl, by assumption, w.here hr (.int _)⟩
    · cases e
  · cases e
theorem foldl_app (l : List (Array Nat)) (a : Array Nat) : (l.foldl (· ++ ·) a).toList = a.toList ++ (l.map (·.toList)).flatten := by
  induction l generalizing a with
  | nil => simp
  | cons x r ih => simp [ih]
theorem op_mulV : OpR X (binaryOp .Mult) (rB X.K mulV) := by
  intro pins s σ H v u v' u' Q I r1 r2 ⟨ρ, h, x, y, z, hr, p, q, e, w⟩
  unfold mulV at e
  split at e
  · split at e
    · cases e; cases p; cases q
      exact op_mul pins s σ H _ _ _ _ Q I r1 r2 ⟨_, _, rfl, rfl, by assumption, w.here hr (.int _)⟩
    · cases e
  · rename_i a k
    split at e
    · rename_i hc
      obtain ⟨h2, h3, h4, h5⟩ := hc
      cases e; cases p; cases q
      obtain ⟨t, rfl⟩ := r1
      obtain ⟨t2, rfl⟩ := r2
      have n1 : ¬ k < 1 := by omega
      have n2 : (k == 1 || a.length == 0) = false := by
        have e1 : (k == 1) = false := by rw [beq_eq_false_iff_ne]; omega
        have e2 : (a.length == 0) = false := by rw [beq_eq_false_iff_ne]; omega
        rw [e1, e2]; rfl
      have hl0 : (a.length : Int) * k ≤ sizeLine := by
        have : (k.toNat : Int) = k := Int.toNat_of_nonneg (by omega)
        rw [← this]; exact_mod_cast h5
      have hl1 : a.length ≤ sizeLine := Nat.le_trans (Nat.le_mul_of_pos_right _ (by omega)) h5
      refine PySem.P.mul_str (by rw [decide_eq_false (by omega), decide_eq_false (by omega)]; rfl) (fun _ _ => ?_) (fun _ _ => ?_) ?_
      · intro hgt
        have h9 : (2 ^ 63 - 1 : Int) / k < a.length := hgt
        have h10 := Int.lt_mul_of_ediv_lt (by omega : (0:Int) < k) h9
        have h11 : (sizeLine : Int) < 2 ^ 63 - 1 := by decide
        omega
      · exact notLongL h5
      · rw [if_neg n1, n2]
        have eS : (⟨(List.replicate k.toNat a.cps).foldl (· ++ ·) #[]⟩ : Str) = ⟨(List.replicate k.toNat a.cps.toList).flatten.toArray⟩ := by
          congr 1
          apply Array.ext'
          rw [foldl_app]
          simp
        rw [if_neg (by decide)]
        rw [eS]
        refine ⟨?_, ⟨.str _, H, I.tok _, ⟨_, rfl⟩, w.here hr (.str _)⟩⟩
        show (List.replicate k.toNat a.cps.toList).flatten.toArray.size ≤ sizeLine
        rw [List.size_toArray, List.length_flatten, List.map_replicate, List.sum_replicate_nat, Array.length_toList]
        rw [Nat.mul_comm]
        exact h5
    · cases e
  · rename_i x k _ _
    split at e
    · rename_i xs ea
      split at e
      · rename_i hc
        obtain ⟨h1, h2, h3⟩ := hc
        cases e; cases q
        obtain ⟨a, va, rfl, ha, ra⟩ := asL_of hr p ea
        exact op_rep pins s σ H _ _ _ _ Q I r1 r2 ⟨_, _, _, rfl, rfl, ha, h1, h2, by rw [← ra.length]; exact h3, w.lst hr (ra.rep _)⟩
      · cases e
    · cases e
  · cases e
end
end Fx
end
section
set_option Elab.async false
set_option linter.all false
set_option maxRecDepth 100000
set_option maxHeartbeats 4000000
/-! Fx, part 3b: comparisons, truth, places, calls by values. -/
namespace Fx
open PySem L2 PySem.Spec PyProof.Rows
section
variable {K : PySem.W.Frag} {ρ ρ' : List Addr} {H H' : Hp} {h : PHeap}
theorem flat_of {x : PV} {v : V} (r : Rep K ρ H x v) (f : flat x = true) : flatV v = true := by
  cases r <;> first | rfl | (cases f)
theorem flats_of : ∀ {xs : List PV} {vs : List V}, Reps K ρ H xs vs → xs.all flat = true → vs.all flatV = true
  | _, _, .nil, _ => rfl
  | _, _, .cons r t, f => by
    simp only [List.all_cons, Bool.and_eq_true] at f ⊢
    exact ⟨flat_of r f.1, flats_of t f.2⟩
theorem eqF_of {x y : PV} {v u : V} (r : Rep K ρ H x v) (q : Rep K ρ H y u) (f : flat x = true) (g : flat y = true) : eqF x y = L2.eqV v u := by
  cases r <;> (try cases f) <;> cases q <;> (try cases g) <;> rfl
theorem any_of {y : PV} {u : V} (q : Rep K ρ H y u) (g : flat y = true) : ∀ {xs : List PV} {vs : List V}, Reps K ρ H xs vs → xs.all flat = true → (xs.any fun z => eqF z y) = L2.inV u vs
  | _, _, .nil, _ => rfl
  | _, _, .cons r t, f => by
    simp only [List.all_cons, Bool.and_eq_true] at f
    have e := any_of q g t f.2
    unfold L2.inV at e ⊢
    rw [List.any_cons, List.any_cons, eqF_of r q f.1 g, e]
theorem allStr_of : ∀ {xs : List PV} {vs : List V} {ys : List Str}, Reps K ρ H xs vs → allStr xs = some ys → vs = ys.map V.str
  | _, _, _, .nil, e => by simp [allStr] at e; subst e; rfl
  | _, _, _, .cons r t, e => by
    cases r with
    | str s =>
      simp only [allStr] at e
      rename_i xs vs
      cases z : allStr xs with
      | none => simp [z] at e
      | some zs => simp [z] at e; subst e; rw [allStr_of t z]; rfl
    | _ => simp [allStr] at e
theorem allBl_of : ∀ {xs : List PV} {vs : List V} {ys : List Bool}, Reps K ρ H xs vs → allBl xs = some ys → vs = ys.map V.bl
  | _, _, _, .nil, e => by simp [allBl] at e; subst e; rfl
  | _, _, _, .cons r t, e => by
    cases r with
    | bl s =>
      simp only [allBl] at e
      rename_i xs vs
      cases z : allBl xs with
      | none => simp [z] at e
      | some zs => simp [z] at e; subst e; rw [allBl_of t z]; rfl
    | _ => simp [allBl] at e
theorem allInt_of : ∀ {xs : List PV} {vs : List V} {ys : List Int}, Reps K ρ H xs vs → allInt xs = some ys → vs = ys.map V.int
  | _, _, _, .nil, e => by simp [allInt] at e; subst e; rfl
  | _, _, _, .cons r t, e => by
    cases r with
    | int s =>
      simp only [allInt] at e
      rename_i xs vs
      cases z : allInt xs with
      | none => simp [z] at e
      | some zs => simp [z] at e; subst e; rw [allInt_of t z]; rfl
    | _ => simp [allInt] at e
end

/-- an operation on two values with a truth value as its answer -/
def rC (K : PySem.W.Frag) (f : PHeap → PV → PV → Option Bool) : R2 := fun v u H Q => ∃ ρ h x y b, HR K ρ H h ∧ Rep K ρ H x v ∧ Rep K ρ H y u ∧ f h x y = some b ∧ Q (.bl b) H
section
variable {X : Cx}
theorem op_eqC (hu : X.A.units + 65 < cLine) : OpR X (compareOp .Eq) (rC X.K eqV) := by
  intro pins s σ H v u v' u' Q I r1 r2 ⟨ρ, h, x, y, b, hr, p, q, e, w⟩
  unfold eqV at e
  split at e
  · rename_i d d' e1 e2
    unfold eqD at e
    split at e
    · rename_i hs
      simp only [Bool.and_eq_true] at hs
      cases e
      exact op_eqD (by omega) pins s σ H _ _ _ _ Q I r1 r2 ⟨d, d', toDH_of hr p e1, toDH_of hr q e2, hs.1, hs.2, w⟩
    · cases e
  · cases e
theorem op_neC (hu : X.A.units + 65 < cLine) : OpR X (compareOp .NotEq) (rC X.K fun h x y => (eqV h x y).map (!·)) := by
  intro pins s σ H v u v' u' Q I r1 r2 ⟨ρ, h, x, y, b, hr, p, q, e0, w⟩
  obtain ⟨c0, e, rfl⟩ : ∃ c, eqV h x y = some c ∧ (!c) = b := Option.map_eq_some_iff.mp e0
  unfold eqV at e
  split at e
  · rename_i d d' e1 e2
    unfold eqD at e
    split at e
    · rename_i hs
      simp only [Bool.and_eq_true] at hs
      cases e
      exact op_neD (by omega) pins s σ H _ _ _ _ Q I r1 r2 ⟨d, d', toDH_of hr p e1, toDH_of hr q e2, hs.1, hs.2, w⟩
    · cases e
  · cases e
theorem op_inC : OpR X (compareOp .In) (rC X.K inV) := by
  intro pins s σ H v u v' u' Q I r1 r2 ⟨ρ, h, x, y, b, hr, p, q, e, w⟩
  unfold inV at e
  split at e
  · rename_i a c
    cases e; cases p; cases q
    unfold inStr at w
    split at w
    · rename_i k ek
      have ea : a = ⟨#[k]⟩ := by
        obtain ⟨cp⟩ := a
        congr 1
        exact Array.ext' (by simpa using ek)
      exact op_in_sign pins s σ H _ _ _ _ Q I r1 r2 ⟨k, c, by rw [ea], rfl, w⟩
    · exact op_in_str pins s σ H _ _ _ _ Q I r1 r2 ⟨a, c, rfl, rfl, w⟩
  · split at e
    · rename_i ys ey
      split at e
      · rename_i hf
        simp only [Bool.and_eq_true] at hf
        cases e
        obtain ⟨a, vs, rfl, hs, rs⟩ := asLT_of hr q ey
        exact op_in_seq pins s σ H _ _ _ _ Q I r1 r2 ⟨a, vs, rfl, hs, flat_of p hf.1, flats_of rs hf.2, by
          rw [any_of p hf.1 rs hf.2] at w
          exact w⟩
      · cases e
    · cases e
theorem op_notInC : OpR X (compareOp .NotIn) (rC X.K fun h x y => (inV h x y).map (!·)) := by
  intro pins s σ H v u v' u' Q I r1 r2 ⟨ρ, h, x, y, b, hr, p, q, e0, w⟩
  obtain ⟨c0, e, rfl⟩ : ∃ c, inV h x y = some c ∧ (!c) = b := Option.map_eq_some_iff.mp e0
  unfold inV at e
  split at e
  · rename_i a c
    cases e; cases p; cases q
    unfold inStr at w
    split at w
    · rename_i k ek
      have ea : a = ⟨#[k]⟩ := by
        obtain ⟨cp⟩ := a
        congr 1
        exact Array.ext' (by simpa using ek)
      exact op_notIn_sign pins s σ H _ _ _ _ Q I r1 r2 ⟨k, c, by rw [ea], rfl, w⟩
    · exact op_notIn_str pins s σ H _ _ _ _ Q I r1 r2 ⟨a, c, rfl, rfl, w⟩
  · split at e
    · rename_i ys ey
      split at e
      · rename_i hf
        simp only [Bool.and_eq_true] at hf
        cases e
        obtain ⟨a, vs, rfl, hs, rs⟩ := asLT_of hr q ey
        exact op_notIn_seq pins s σ H _ _ _ _ Q I r1 r2 ⟨a, vs, rfl, hs, flat_of p hf.1, flats_of rs hf.2, by
          rw [any_of p hf.1 rs hf.2] at w
          exact w⟩
      · cases e
    · cases e
theorem op_cmpC (hu : X.A.units + 65 < cLine) : ∀ op, OpR X (compareOp op) (rC X.K (cmpV op))
  | .Eq => op_eqC hu
  | .NotEq => op_neC hu
  | .In => op_inC
  | .NotIn => op_notInC
  | .Lt => by
    intro pins s σ H v u v' u' Q I r1 r2 ⟨ρ, h, x, y, b, hr, p, q, e, w⟩
    simp only [cmpV] at e
    split at e
    · cases e; cases p; cases q
      exact op_lt pins s σ H _ _ _ _ Q I r1 r2 ⟨_, _, rfl, rfl, w⟩
    · cases e; cases p; cases q
      exact op_lt_str pins s σ H _ _ _ _ Q I r1 r2 ⟨_, _, rfl, rfl, w⟩
    · cases e
  | .LtE => by
    intro pins s σ H v u v' u' Q I r1 r2 ⟨ρ, h, x, y, b, hr, p, q, e, w⟩
    simp only [cmpV] at e
    split at e
    · cases e; cases p; cases q
      exact op_le pins s σ H _ _ _ _ Q I r1 r2 ⟨_, _, rfl, rfl, w⟩
    · cases e
  | .Gt => by
    intro pins s σ H v u v' u' Q I r1 r2 ⟨ρ, h, x, y, b, hr, p, q, e, w⟩
    simp only [cmpV] at e
    split at e
    · cases e; cases p; cases q
      exact op_gt pins s σ H _ _ _ _ Q I r1 r2 ⟨_, _, rfl, rfl, w⟩
    · cases e
  | .GtE => by
    intro pins s σ H v u v' u' Q I r1 r2 ⟨ρ, h, x, y, b, hr, p, q, e, w⟩
    simp only [cmpV] at e
    split at e
    · cases e; cases p; cases q
      exact op_ge pins s σ H _ _ _ _ Q I r1 r2 ⟨_, _, rfl, rfl, w⟩
    · cases e
  | .Is => by
    intro pins s σ H v u v' u' Q I r1 r2 ⟨ρ, h, x, y, b, hr, p, q, e, w⟩
    simp only [cmpV] at e
    split at e
    · cases q
      cases e
      refine op_isN pins s σ H _ _ _ _ Q I r1 r2 ⟨rfl, ?_⟩
      cases p <;> exact w
    · cases e
  | .IsNot => by
    intro pins s σ H v u v' u' Q I r1 r2 ⟨ρ, h, x, y, b, hr, p, q, e, w⟩
    simp only [cmpV] at e
    split at e
    · cases q
      cases e
      refine op_notN pins s σ H _ _ _ _ Q I r1 r2 ⟨rfl, ?_⟩
      cases p <;> exact w
    · cases e
/-- truth -/
theorem tru_of {K : PySem.W.Frag} {ρ : List Addr} {H : Hp} {h : PHeap} {x : PV} {v : V} {b : Bool} (hr : HR K ρ H h) (p : Rep K ρ H x v) (e : truV h x = some b) : TruV K v H b := by
  have emp : ∀ {xs : List PV} {vs : List V}, Reps K ρ H xs vs → xs.isEmpty = vs.isEmpty := fun r => by cases r <;> rfl
  cases p with
  | non => cases e; rfl
  | bl c => cases e; rfl
  | int i => cases e; rfl
  | str y =>
    simp only [truV] at e
    split at e
    · cases e; exact ⟨by assumption, rfl⟩
    · cases e
  | tup q r => simp only [truV] at e; cases e; exact .inr (.inl ⟨_, q.t, by rw [emp r]⟩)
  | lst n q r => simp only [truV, asL, Option.map_some, Option.some.injEq] at e; cases e; exact .inl ⟨_, .of q, by rw [emp r]⟩
  | scr q => simp [truV, asL] at e
  | ref q =>
    simp only [truV] at e
    rename_i i a
    cases z : asL h (.ref i) with
    | none => simp [z] at e
    | some xs =>
      simp only [z, Option.map_some, Option.some.injEq] at e; cases e
      obtain ⟨a', vs, h1, h2, h3⟩ := asL_of hr (.ref q) z
      cases h1
      exact .inl ⟨_, .of h2, by rw [emp h3]⟩

/-! ### places, slices -/
theorem atI_of {K : PySem.W.Frag} {ρ : List Addr} {H : Hp} {xs : List PV} {vs : List V} {x : PV} {k : Int} (r : Reps K ρ H xs vs) (e : atI xs k = some x) : ∃ v, atI vs k = some v ∧ Rep K ρ H x v := by
  unfold atI at e ⊢
  rw [← r.length]
  cases z : ixN xs.length k with
  | none => rw [z] at e; cases e
  | some j =>
    rw [z] at e
    exact r.get e
theorem ix_V : IxR X (rB X.K fun h x y => subsV h x y) := by
  intro value slice pins s σ H v u v' u' Q I r1 r2 ⟨ρ, h, x, y, z, hr, p, q, e, w⟩ hs
  have e : subsV h x y = some z := e
  cases q with
  | int k =>
    have gen : ((asLT h x).bind fun xs => atI xs k) = some z → wpAny (model X.prog X.w) X.A (subscriptTail value slice v' u') (EP X pins σ Q) X.xe s := by
      intro e
      cases e2 : asLT h x with
      | none => rw [e2] at e; cases e
      | some xs =>
        rw [e2] at e
        obtain ⟨a, vs, rfl, hq, rs⟩ := asLT_of hr p e2
        obtain ⟨v2, h1, h2⟩ := atI_of rs e
        rcases hq with hq | hq
        · exact ix_list value slice pins s σ H _ _ _ _ Q I r1 r2 ⟨a, vs, k, v2, rfl, rfl, hq, h1, w.here hr h2⟩ hs
        · exact ix_tup value slice pins s σ H _ _ _ _ Q I r1 r2 ⟨a, vs, k, v2, rfl, rfl, hq, h1, w.here hr h2⟩ hs
    cases x with
    | str st =>
      have e : (if st.length ≤ sizeLine then (atI st.cps.toList k).map fun c => PV.str ⟨#[c]⟩ else none) = some z := e
      split at e
      · rename_i hl
        cases p
        cases e2 : atI st.cps.toList k with
        | none => rw [e2] at e; cases e
        | some c =>
          rw [e2] at e; cases e
          exact ix_str value slice pins s σ H _ _ _ _ Q I r1 r2 ⟨st, k, c, rfl, rfl, hl, e2, w.here hr (.str _)⟩ hs
      · cases e
    | _ => exact gen e
  | _ => cases e
theorem Reps.cut {K : PySem.W.Frag} {ρ : List Addr} {H : Hp} {xs : List PV} {vs : List V} (r : Reps K ρ H xs vs) (lo hi : Option Int) : Reps K ρ H (cutP xs lo hi) (cutV vs lo hi) := by
  unfold cutP cutV
  rw [← r.length]
  exact Reps.take _ (Reps.drop _ r)
theorem cut_map {ns : List Int} {lo hi : Option Int} : cutV (ns.map V.int) lo hi = (cutP ns lo hi).map V.int := by
  unfold cutP cutV
  rw [List.length_map, List.map_take, List.map_drop]
def rS (K : PySem.W.Frag) : V → Option Int → Option Int → Hp → VK → Prop := fun v lo hi H Q => ∃ ρ h x z, HR K ρ H h ∧ Rep K ρ H x v ∧ sliceV h x lo hi = some z ∧ Wants K ρ H h z Q
theorem sl_V : SlR X (rS X.K) := by
  intro pins s σ H v v' vl vu lo hi sl Q I rx hs pl pu ⟨ρ, h, x, z, hr, p, e, w⟩
  unfold sliceV at e
  split at e
  · split at e
    · cases e; cases p
      exact sl_str pins s σ H _ _ _ _ _ _ _ Q I rx hs pl pu ⟨_, rfl, by assumption, w.here hr (.str _)⟩
    · cases e
  · rename_i xs
    cases e
    cases p with
    | tup q r =>
      rename_i vs a
      refine sl_tupA pins s σ H _ _ _ _ _ _ _ Q I rx hs pl pu ⟨a, vs, rfl, q.t, fun e0 => ?_, fun _ => w.tup hr (r.cut _ _)⟩
      refine w.here hr (.tup q ?_)
      have e1 : cutV vs lo hi = vs := by
        unfold cutV
        rw [e0.1, e0.2]
        simp
      have r2 := r.cut lo hi
      rw [e1] at r2
      exact r2
  · rename_i ns
    cases e
    cases p with
    | scr q =>
      refine sl_list pins s σ H _ _ _ _ _ _ _ Q I rx hs pl pu ⟨_, _, rfl, q.l, ?_⟩
      rw [cut_map]
      exact w.lst hr (Reps.ofInts _)
  · cases e2 : asL h x with
    | none => rw [e2] at e; cases e
    | some xs =>
      rw [e2] at e; cases e
      obtain ⟨a, vs, rfl, hq, rs⟩ := asL_of hr p e2
      exact sl_list pins s σ H _ _ _ _ _ _ _ Q I rx hs pl pu ⟨a, vs, rfl, .of hq, w.lst hr (rs.cut _ _)⟩
/-! ### built-in functions -/
def rF (K : PySem.W.Frag) (f : PHeap → List PV → Option PV) : List V → Hp → VK → Prop := fun vs H Q => ∃ ρ h xs z, HR K ρ H h ∧ Reps K ρ H xs vs ∧ f h xs = some z ∧ Wants K ρ H h z Q
def bfName : BF → String
  | .len => "len" | .all => "all" | .any => "any" | .sum => "sum" | .str => "str" | .int => "int" | .abs => "abs" | .min => "min" | .max => "max" | .tuple => "tuple" | .list => "list"
def bfIsTy : BF → Bool
  | .str => true | .int => true | .tuple => true | .list => true | _ => false
def bfVal (f : BF) : Value := if bfIsTy f then .type (bfName f) else .builtin (bfName f)
theorem Reps.one {K : PySem.W.Frag} {ρ : List Addr} {H : Hp} {x : PV} {vs : List V} (r : Reps K ρ H [x] vs) : ∃ v, vs = [v] ∧ Rep K ρ H x v := by
  cases r with
  | cons a b => cases b; exact ⟨_, rfl, a⟩
theorem Reps.two {K : PySem.W.Frag} {ρ : List Addr} {H : Hp} {x y : PV} {vs : List V} (r : Reps K ρ H [x, y] vs) : ∃ v u, vs = [v, u] ∧ Rep K ρ H x v ∧ Rep K ρ H y u := by
  cases r with
  | cons a b =>
    obtain ⟨u, rfl, q⟩ := b.one
    exact ⟨_, u, rfl, a, q⟩
theorem on1_of {f : PV → Option PV} {xs : List PV} {z : PV} (e : on1 f xs = some z) : ∃ v, xs = [v] ∧ f v = some z := by
  unfold on1 at e
  split at e
  · exact ⟨_, rfl, e⟩
  · cases e
theorem on2_of {f : PV → PV → Option PV} {xs : List PV} {z : PV} (e : on2 f xs = some z) : ∃ v u, xs = [v, u] ∧ f v u = some z := by
  unfold on2 at e
  split at e
  · exact ⟨_, _, rfl, e⟩
  · cases e
theorem call_bf (hc : X.calm = true) : ∀ f, CallR X (bfVal f) (rF X.K (bfV f))
  | .len => by
    intro pins s σ H vs us Q I r ⟨ρ, h, xs, z, hr, p0, e0, w⟩
    obtain ⟨x, rfl, e⟩ := on1_of e0
    obtain ⟨v, rfl, p⟩ := p0.one
    have gen : (asLT h x).map (fun xs => PV.int xs.length) = some z → wpAny (model X.prog X.w) X.A (call (bfVal .len) us) (EP X pins σ Q) X.xe s := by
      intro e
      cases e2 : asLT h x with
      | none => rw [e2] at e; cases e
      | some xs =>
        rw [e2] at e; cases e
        obtain ⟨a, vs, rfl, hq, rs⟩ := asLT_of hr p e2
        exact call_len_seq pins s σ H _ _ Q I r ⟨a, vs, rfl, hq, by rw [← rs.length]; exact w.here hr (.int _)⟩
    cases x with
    | str st =>
      have e : (if st.length ≤ sizeLine then some (PV.int st.length) else none) = some z := e
      split at e
      · cases e; cases p
        exact call_len_str pins s σ H _ _ Q I r ⟨st, rfl, by assumption, w.here hr (.int _)⟩
      · cases e
    | _ => exact gen e
  | .all => by
    intro pins s σ H vs us Q I r ⟨ρ, h, xs, z, hr, p0, e0, w⟩
    obtain ⟨x, rfl, e⟩ := on1_of e0
    obtain ⟨v, rfl, p⟩ := p0.one
    obtain ⟨ys, e2, e⟩ := Option.bind_eq_some_iff.mp e
    obtain ⟨bs, e3, rfl⟩ := Option.map_eq_some_iff.mp e
    obtain ⟨a, vs, rfl, hq, rs⟩ := asL_of hr p e2
    have e4 := allBl_of rs e3
    subst e4
    exact cr_all hc pins s σ H _ _ Q I r ⟨a, bs, rfl, .of hq, w.here hr (.bl _)⟩
  | .any => by
    intro pins s σ H vs us Q I r ⟨ρ, h, xs, z, hr, p0, e0, w⟩
    obtain ⟨x, rfl, e⟩ := on1_of e0
    obtain ⟨v, rfl, p⟩ := p0.one
    obtain ⟨ys, e2, e⟩ := Option.bind_eq_some_iff.mp e
    obtain ⟨bs, e3, rfl⟩ := Option.map_eq_some_iff.mp e
    obtain ⟨a, vs, rfl, hq, rs⟩ := asL_of hr p e2
    have e4 := allBl_of rs e3
    subst e4
    exact cr_any hc pins s σ H _ _ Q I r ⟨a, bs, rfl, .of hq, w.here hr (.bl _)⟩
  | .sum => by
    intro pins s σ H vs us Q I r ⟨ρ, h, xs, z, hr, p0, e0, w⟩
    obtain ⟨x, rfl, e⟩ := on1_of e0
    obtain ⟨v, rfl, p⟩ := p0.one
    obtain ⟨ys, e2, e⟩ := Option.bind_eq_some_iff.mp e
    obtain ⟨bs, e3, rfl⟩ := Option.map_eq_some_iff.mp e
    obtain ⟨a, vs, rfl, hq, rs⟩ := asL_of hr p e2
    have e4 := allInt_of rs e3
    subst e4
    exact cr_sum hc pins s σ H _ _ Q I r ⟨a, bs, rfl, .of hq, w.here hr (.int _)⟩
  | .str => by
    intro pins s σ H vs us Q I r ⟨ρ, h, xs, z, hr, p0, e0, w⟩
    obtain ⟨x, rfl, e⟩ := on1_of e0
    obtain ⟨v, rfl, p⟩ := p0.one
    unfold strV at e
    split at e
    · split at e
      · cases e; cases p
        exact call_str_int pins s σ H _ _ Q I r ⟨_, rfl, by assumption, w.here hr (.str _)⟩
      · cases e
    · cases e
  | .int => by
    intro pins s σ H vs us Q I r ⟨ρ, h, xs, z, hr, p0, e0, w⟩
    obtain ⟨x, rfl, e⟩ := on1_of e0
    obtain ⟨v, rfl, p⟩ := p0.one
    unfold intV at e
    split at e
    · cases e; cases p
      exact call_int1 pins s σ H _ _ Q I r (.inl ⟨_, rfl, w.here hr (.int _)⟩)
    · cases e; cases p
      exact call_int1 pins s σ H _ _ Q I r (.inr ⟨_, rfl, w.here hr (.int _)⟩)
    · cases e
  | .abs => by
    intro pins s σ H vs us Q I r ⟨ρ, h, xs, z, hr, p0, e0, w⟩
    obtain ⟨x, rfl, e⟩ := on1_of e0
    obtain ⟨v, rfl, p⟩ := p0.one
    unfold absV at e
    split at e
    · cases e; cases p
      exact call_abs pins s σ H _ _ Q I r ⟨_, rfl, w.here hr (.int _)⟩
    · cases e
  | .min => by
    intro pins s σ H vs us Q I r ⟨ρ, h, xs, z, hr, p0, e0, w⟩
    obtain ⟨x, y, rfl, e⟩ := on2_of e0
    obtain ⟨v, u, rfl, p, q⟩ := p0.two
    unfold minV at e
    split at e
    · cases e; cases p; cases q
      exact call_min2 hc pins s σ H _ _ Q I r ⟨_, _, rfl, w.here hr (.int _)⟩
    · cases e
  | .max => by
    intro pins s σ H vs us Q I r ⟨ρ, h, xs, z, hr, p0, e0, w⟩
    obtain ⟨x, y, rfl, e⟩ := on2_of e0
    obtain ⟨v, u, rfl, p, q⟩ := p0.two
    unfold maxV at e
    split at e
    · cases e; cases p; cases q
      exact call_max2 hc pins s σ H _ _ Q I r ⟨_, _, rfl, w.here hr (.int _)⟩
    · cases e
  | .tuple => by
    intro pins s σ H vs us Q I r ⟨ρ, h, xs, z, hr, p0, e0, w⟩
    obtain ⟨x, rfl, e⟩ := on1_of e0
    obtain ⟨v, rfl, p⟩ := p0.one
    obtain ⟨ys, e2, rfl⟩ := Option.map_eq_some_iff.mp e
    cases p with
    | tup q2 r2 =>
      cases e2
      exact call_tuple_of pins s σ H _ _ Q I r ⟨_, _, rfl, .inr ⟨q2.t, w.here hr (.tup q2 r2)⟩⟩
    | lst n q2 r2 =>
      cases e2
      exact call_tuple_of pins s σ H _ _ Q I r ⟨_, _, rfl, .inl ⟨.of q2, w.tup hr r2⟩⟩
    | ref q2 =>
      obtain ⟨a, vs, h1, h2, h3⟩ := asL_of hr (.ref q2) (xs := ys) e2
      cases h1
      exact call_tuple_of pins s σ H _ _ Q I r ⟨_, _, rfl, .inl ⟨.of h2, w.tup hr h3⟩⟩
    | _ => cases e2
  | .list => by
    intro pins s σ H vs us Q I r ⟨ρ, h, xs, z, hr, p0, e0, w⟩
    obtain ⟨x, rfl, e⟩ := on1_of e0
    obtain ⟨v, rfl, p⟩ := p0.one
    obtain ⟨ys, e2, rfl⟩ := Option.map_eq_some_iff.mp e
    obtain ⟨a, vs, rfl, hq, rs⟩ := asLT_of hr p e2
    exact call_list_of pins s σ H _ _ Q I r ⟨_, _, rfl, hq, w.lst hr rs⟩
end
end Fx
end
section
set_option Elab.async false
set_option linter.all false
set_option maxRecDepth 100000
set_option maxHeartbeats 4000000
/-! Fx, part 3c: enumerate over tuples and texts. -/
namespace Fx
open PySem L2 PySem.Spec PyProof.Rows
def IteT (K : PySem.W.Frag) (a : Addr) : It :=
  ⟨fun i H => ∃ (xs : List V) (x : V), SqT K H a xs ∧ xs[i]? = some x, fun i H v H' => ∃ T x, v = .ref T ∧ H T = none ∧ H' = upd H T (.tup [.int (i : Nat), x]) ∧ ∀ xs, SqT K H a xs → xs[i]? = some x, fun i H => ∃ xs : List V, SqT K H a xs ∧ xs.length = i⟩
def IteS (z : Str) : It :=
  ⟨fun i _ => i < z.cps.size, fun i H v H' => ∃ T c, v = .ref T ∧ H T = none ∧ H' = upd H T (.tup [.int (i : Nat), .str ⟨#[c]⟩]) ∧ z.cps[i]? = some c, fun i _ => z.cps.size = i⟩
section
variable {P : Program} {w : World} {K : PySem.W.Frag} {elts : List Expr} {kk : Nat} {tpos : Pos}
theorem turn_enumT (a e it : Addr) : Turn P w K (.Tuple elts kk tpos) (IteT K a) [e, it] e (fun i h => (∃ old, IsEnum h e it ((i : Nat) : Int) old) ∧ h.IsTupleIter it a i ∧ e ≠ it ∧ e ≠ a ∧ a ≠ it) where
  mem := by simp
  obj := fun i h st b hb => by
    obtain ⟨⟨old, he⟩, ⟨o, ho, hc, hd⟩, _⟩ := st
    have e' : b = e ∨ b = it := by simpa using hb
    rcases e' with z | z
    · rw [z]; exact ⟨_, he, fun v q => nomatch q⟩
    · rw [z]; exact ⟨o, ho, fun v q => by rw [hd] at q; cases q⟩
  keep := fun i h h' st k => let ⟨⟨old, he⟩, hi, hne⟩ := st; ⟨⟨old, k e (by simp) _ he⟩, hi.at fun o q => k it (by simp) o q, hne⟩
  item := by
    intro X hP hw hK hc i pins s σ H E I hf st hg
    subst hP hw hK
    obtain ⟨⟨old, he⟩, hit, hne, hea, hai⟩ := st
    obtain ⟨xs, x, hq, hx⟩ := hg
    obtain ⟨its, rv, p, hz⟩ := I.tuple hq
    obtain ⟨u, hu, ru⟩ := rv.get hx
    have hel : e < s.heap.objs.size := Heap.lt_size he
    have hil : it < s.heap.objs.size := by obtain ⟨_, q, _⟩ := hit; exact Heap.lt_size q
    have hlt : i < its.toArray.size := by
      have := (List.getElem?_eq_some_iff.mp hu).1
      simpa using this
    have hh : X.A.in1.handled = none := I.ok.hd hc
    refine wpAny_pyNext_enum_itemD (Draws.tuple hh it a hai its.toArray) he ⟨hit, p⟩ hlt hne (by simp [hne, hea]) fun x' h' tk hP ho hs' hT hsz hk => ?_
    have ex : x' = u := by
      have : its.toArray[i]? = some u := by simpa using hu
      rw [this] at hP; exact (Option.some.inj hP).symm
    subst ex
    refine ⟨_, rfl, wpAny_letOwnedTupleGo_enum (s := { s with heap := h', toks := tk + 1 }) ho fun h'' he' sb => ?_⟩
    have hT2 : h''.get? s.heap.objs.size = some { cls := .type "tuple", data := .seq #[.int i tk, x'] } := (sb.2 _ (Nat.ne_of_gt hel)).trans hT
    have new : ObjOk X.prog X.w (upd H s.heap.objs.size (.tup [.int (i : Nat), x])) h'' s.heap.objs.size (.tup [.int (i : Nat), x]) :=
      ⟨by show 2 ≤ sizeLine; decide, [.int i tk, x'], .cons ⟨_, rfl⟩ (.cons ru .nil), ⟨_, hT2, rfl, _, rfl⟩⟩
    have I1 : Inv X pins σ (upd H s.heap.objs.size (.tup [.int (i : Nat), x])) { s with heap := h'', toks := tk + 1 } :=
      I.turnedNew (ch := [e, it]) (fun b ob hb q => (sb.2 b (fun z => hb (by simp [z]))).trans (hk b ob (fun z => hb (by simp [z])) (fun z => hb (by simp [z])) q)) hf (Nat.le_refl _) new
    refine ⟨.ref s.heap.objs.size, _, I1, rfl, ⟨_, x, rfl, I.hok.fresh (Nat.le_refl _), rfl, fun ys hy => by rw [I.tuple_inj hy hq]; exact hx⟩, ⟨⟨x', ?_⟩, hs'.1.at fun o q => (sb.2 it (Ne.symm hne)).trans q, hne, hea, hai⟩, fun b hb => ?_⟩
    · have e1 : ((i + 1 : Nat) : Int) = (i : Int) + 1 := by omega
      rw [e1]; exact he'
    · have hb' : b < s.heap.objs.size := by
        have e' : b = e ∨ b = it := by simpa using hb
        rcases e' with z | z
        · rw [z]; exact hel
        · rw [z]; exact hil
      rw [upd_ne (Nat.ne_of_lt hb')]
      exact (hf b hb).1
  done := by
    intro X hP hw hK hc i pins s σ H E I hf st hg
    subst hP hw hK
    obtain ⟨⟨old, he⟩, hit, hne, hea, hai⟩ := st
    obtain ⟨xs, hq, hx⟩ := hg
    obtain ⟨its, rv, p, hz⟩ := I.tuple hq
    obtain ⟨f0, f1, f2, f3, f4, f5⟩ := hf it (by simp)
    have hl := rv.length
    have hh : X.A.in1.handled = none := I.ok.hd hc
    have en : its.toArray.size = i := by simp; omega
    subst en
    exact wpAny_pyNext_enum_endD (Draws.tuple hh it a hai its.toArray) he ⟨hit, p⟩ fun h' eb => ⟨rfl, I.turned (t' := s.toks) (fun b o hb q => eb b o hb q) f0 f1 f3 f4 f5⟩
  self := fun A i s Q E st h => let ⟨⟨_, he⟩, _⟩ := st; wpAny_pyIter_enum he h
theorem turn_enumS (z : Str) (t : Tok) (e it : Addr) : Turn P w K (.Tuple elts kk tpos) (IteS z) [e, it] e (fun i h => (∃ old, IsEnum h e it ((i : Nat) : Int) old) ∧ h.IsStrIter it (strIterType z) z t i ∧ e ≠ it) where
  mem := by simp
  obj := fun i h st b hb => by
    obtain ⟨⟨old, he⟩, ⟨o, ho, hc, hd⟩, _⟩ := st
    have e' : b = e ∨ b = it := by simpa using hb
    rcases e' with z | z
    · rw [z]; exact ⟨_, he, fun v q => nomatch q⟩
    · rw [z]; exact ⟨o, ho, fun v q => by rw [hd] at q; cases q⟩
  keep := fun i h h' st k => let ⟨⟨old, he⟩, hi, hne⟩ := st; ⟨⟨old, k e (by simp) _ he⟩, (let ⟨o, q, c, d⟩ := hi; ⟨o, k it (by simp) o q, c, d⟩), hne⟩
  item := by
    intro X hP hw hK hc i pins s σ H E I hf st hg
    subst hP hw hK
    obtain ⟨⟨old, he⟩, hit, hne⟩ := st
    have hel : e < s.heap.objs.size := Heap.lt_size he
    have hil : it < s.heap.objs.size := by obtain ⟨_, q, _⟩ := hit; exact Heap.lt_size q
    have hh : X.A.in1.handled = none := I.ok.hd hc
    refine wpAny_pyNext_enum_itemD (Draws.text hh it z t) he hit hg hne (by simp [hne]) fun x' h' tk hP ho hs' hT hsz hk => ?_
    obtain ⟨c, u, hc2, rfl⟩ := hP
    refine ⟨_, rfl, wpAny_letOwnedTupleGo_enum (s := { s with heap := h', toks := tk + 1 }) ho fun h'' he' sb => ?_⟩
    have hT2 : h''.get? s.heap.objs.size = some { cls := .type "tuple", data := .seq #[.int i tk, .str ⟨#[c]⟩ u] } := (sb.2 _ (Nat.ne_of_gt hel)).trans hT
    have new : ObjOk X.prog X.w (upd H s.heap.objs.size (.tup [.int (i : Nat), .str ⟨#[c]⟩])) h'' s.heap.objs.size (.tup [.int (i : Nat), .str ⟨#[c]⟩]) :=
      ⟨by show 2 ≤ sizeLine; decide, [.int i tk, .str ⟨#[c]⟩ u], .cons ⟨_, rfl⟩ (.cons ⟨_, rfl⟩ .nil), ⟨_, hT2, rfl, _, rfl⟩⟩
    have I1 : Inv X pins σ (upd H s.heap.objs.size (.tup [.int (i : Nat), .str ⟨#[c]⟩])) { s with heap := h'', toks := tk + 1 } :=
      I.turnedNew (ch := [e, it]) (fun b ob hb q => (sb.2 b (fun z => hb (by simp [z]))).trans (hk b ob (fun z => hb (by simp [z])) (fun z => hb (by simp [z])) q)) hf (Nat.le_refl _) new
    refine ⟨.ref s.heap.objs.size, _, I1, rfl, ⟨_, c, rfl, I.hok.fresh (Nat.le_refl _), rfl, hc2⟩, ⟨⟨.str ⟨#[c]⟩ u, ?_⟩, (let ⟨o, q, c, d⟩ := hs'; ⟨o, (sb.2 it (Ne.symm hne)).trans q, c, d⟩), hne⟩, fun b hb => ?_⟩
    · have e1 : ((i + 1 : Nat) : Int) = (i : Int) + 1 := by omega
      rw [e1]; exact he'
    · have hb' : b < s.heap.objs.size := by
        have e' : b = e ∨ b = it := by simpa using hb
        rcases e' with z | z
        · rw [z]; exact hel
        · rw [z]; exact hil
      rw [upd_ne (Nat.ne_of_lt hb')]
      exact (hf b hb).1
  done := by
    intro X hP hw hK hc i pins s σ H E I hf st hg
    subst hP hw hK
    obtain ⟨⟨old, he⟩, hit, hne⟩ := st
    obtain ⟨f0, f1, f2, f3, f4, f5⟩ := hf it (by simp)
    have hh : X.A.in1.handled = none := I.ok.hd hc
    have en : z.cps.size = i := hg
    subst en
    exact wpAny_pyNext_enum_endD (Draws.text hh it z t) he hit fun h' eb => ⟨rfl, I.turned (t' := s.toks) (fun b o hb q => eb b o hb q) f0 f1 f3 f4 f5⟩
  self := fun A i s Q E st h => let ⟨⟨_, he⟩, _⟩ := st; wpAny_pyIter_enum he h
/-- enumerate(v): its two new records -/
theorem meets_enum1 {v : Value} {o : Obj} {H : Heap → Prop} (B : Begins v o H) :
    Meets (Builtin.«enumerate.__new__» ⟨[.type "enumerate", v], []⟩) (fun _ R s => H s.heap ∧
      R (.ok (.ret (.ref (s.heap.push o).objs.size))) { s with heap := (s.heap.push o).push { cls := .type "enumerate", data := .fields #[.none, .bool false, .ref s.heap.objs.size, rawInt 0, .none, .none] } }) :=
  .of_wp fun prog w A R s h => by
    obtain ⟨hp, g, d, tk, os⟩ := s; obtain ⟨h1, h⟩ := h
    have hsub := sub_enumerate
    have q1 : ∀ {A' : Around} {E : Value → Shared → Prop} {Q : Value → Shared → Prop}, Q (.ref hp.objs.size) ⟨hp.push o, g, d, tk, os⟩ → wpAny (model prog w) A' (pyIter v) Q E ⟨hp, g, d, tk, os⟩ :=
      fun q => B.iter prog w _ _ ⟨hp, g, d, tk, os⟩ _ h1 q
    wp_walk using q1
    refine wpAny_stack_any fun st => wpAny_pure ?_
    split
    · rename_i c _ _ _ _ _
      cases (c == Value.type "enumerate")
      · wp_walk using q1
        exact ⟨_, rfl, h⟩
      · wp_walk using q1
        exact ⟨_, rfl, h⟩
    · wp_walk using q1
      exact ⟨_, rfl, h⟩
theorem enum1_begins {prog : Program} {A : Around} {E : Value → Shared → Prop} {s : Shared} {v : Value} {o : Obj} {H : Heap → Prop} {Q : Value → Shared → Prop} (B : Begins v o H) (h1 : H s.heap)
    (h : ∀ h', IsEnum h' (s.heap.objs.size + 1) s.heap.objs.size 0 .none → h'.get? s.heap.objs.size = some o → h'.objs.size = s.heap.objs.size + 2 →
      (∀ b o, s.heap.get? b = some o → h'.get? b = some o) → Q (.ref (s.heap.objs.size + 1)) { s with heap := h' }) :
    wpAny (model prog w) A (call (.type "enumerate") [v]) Q E s := by
  refine callType_new F.called_enumerate (by decide) (F.typeCall_enumerate_1 _) (F.newCall_enumerate_1 _) (fun obj => F.args_object_init_2 obj _) F.entry_enumerate_new
    (meets_enum1 B) ⟨h1, ?_⟩
  have hz : (s.heap.push o).objs.size = s.heap.objs.size + 1 := Heap.size_push ..
  show _ ∧ _
  rw [hz]
  have he : IsEnum ((s.heap.push o).push { cls := .type "enumerate", data := .fields #[.none, .bool false, .ref s.heap.objs.size, rawInt 0, .none, .none] }) (s.heap.objs.size + 1) s.heap.objs.size 0 .none := by
    have := Heap.get?_push_size (s.heap.push o) (o := { cls := .type "enumerate", data := .fields #[.none, .bool false, .ref s.heap.objs.size, rawInt 0, .none, .none] }) rfl
    rw [hz] at this; exact this
  refine ⟨⟨_, he, rfl⟩, h _ he (Heap.get?_push_of_some _ (Heap.get?_push_size _ B.free)) (by rw [Heap.size_push, hz]) fun b o x => Heap.get?_push_of_some _ (Heap.get?_push_of_some _ x)⟩
end

/-! ### what is walked, by values -/
/-- J goes through the items, whatever is done meanwhile -/
def JOk (K : PySem.W.Frag) (ρ : List Addr) (H : Hp) (J : It) (items : List PV) (ok : PHeap → Bool) : Prop :=
  ∀ ρ' H' h', Step ρ H ρ' H' → HR K ρ' H' h' → ok h' = true →
    J.stop items.length H' ∧ ∀ (i : Nat) (x : PV), items[i]? = some x → J.go i H' ∧ ∀ v H2, J.yld i H' v H2 → (∀ a o, H' a = some o → H2 a = some o) ∧ Rep K ρ' H2 x v
/-- the iterator of v walks the items -/
def iV (K : PySem.W.Frag) (f : PHeap → PV → Option (List PV × Option Nat)) (te : TE) : TI := fun σ H R => te σ H fun v H1 => ∃ ρ h x w, HR K ρ H1 h ∧ Rep K ρ H1 x v ∧ f h x = some w ∧ ∀ J, JOk K ρ H1 J w.1 (stays w.1 w.2) → R J H1
section
variable {K : PySem.W.Frag} {ρ : List Addr} {H : Hp} {h : PHeap}
theorem jok_list {xs : List PV} {a : Addr} {vs : List V} (n : a ∉ ρ) (e : H a = some (.lst vs)) (r : Reps K ρ H xs vs) {ok : PHeap → Bool} : JOk K ρ H (Itl K a) xs ok := by
  intro ρ' H' h' st _ _
  have e' := st.keep a _ n e
  have r' := r.mono st
  refine ⟨⟨vs, .of e', by rw [r.length]; exact Nat.le_refl _⟩, fun i x hx => ?_⟩
  obtain ⟨v, hv, rv⟩ := r'.get hx
  refine ⟨⟨vs, v, .of e', hv⟩, ?_⟩
  rintro u H2 ⟨rfl, hu⟩
  have := hu vs (.of e')
  rw [hv] at this; cases this
  exact ⟨fun _ _ z => z, rv⟩
theorem jok_tup {xs : List PV} {a : Addr} {vs : List V} (q : SqI K ρ H a vs) (r : Reps K ρ H xs vs) {ok : PHeap → Bool} : JOk K ρ H (Itt K a) xs ok := by
  intro ρ' H' h' st _ _
  have q' : SqT K H' a vs := by
    rcases q with ⟨n, e⟩ | q
    · exact .of (st.keep a _ n e)
    · exact .inr q
  have r' := r.mono st
  refine ⟨⟨vs, q', by rw [r.length]; exact Nat.le_refl _⟩, fun i x hx => ?_⟩
  obtain ⟨v, hv, rv⟩ := r'.get hx
  refine ⟨⟨vs, v, q', hv⟩, ?_⟩
  rintro u H2 ⟨rfl, hu⟩
  have := hu vs q'
  rw [hv] at this; cases this
  exact ⟨fun _ _ z => z, rv⟩
theorem jok_str {s : Str} {ok : PHeap → Bool} : JOk K ρ H (Its s) (chars s) ok := by
  intro ρ' H' h' st _ _
  refine ⟨by show s.cps.size ≤ _; simp [chars], fun i x hx => ?_⟩
  unfold chars at hx
  rw [List.getElem?_map] at hx
  cases z : s.cps.toList[i]? with
  | none => rw [z] at hx; cases hx
  | some c =>
    rw [z] at hx; cases hx
    have z2 : s.cps[i]? = some c := by simpa using z
    refine ⟨(Array.getElem?_eq_some_iff.mp z2).1, ?_⟩
    rintro u H2 ⟨rfl, c', h1, rfl⟩
    rw [z2] at h1; cases h1
    exact ⟨fun _ _ z => z, .str _⟩
theorem jok_ref {xs : List PV} {a : Addr} {n : Nat} (e : ρ[n]? = some a) : JOk K ρ H (Itl K a) xs (stays xs (some n)) := by
  intro ρ' H' h' st hr ok
  have e' := st.get e
  have hx : h'[n]? = some (.lst xs) := by
    unfold stays at ok
    split at ok
    · rename_i heq
      cases heq
    · rename_i m heq
      cases heq
      split at ok
      · rename_i ys hy
        rw [hy, PV.eq_of_beqs _ _ ok]
      · cases ok
  obtain ⟨vs, h1, h2⟩ := hr.lst hx e'
  refine ⟨⟨vs, .of h1, by rw [h2.length]; exact Nat.le_refl _⟩, fun i x hx => ?_⟩
  obtain ⟨v, hv, rv⟩ := h2.get hx
  refine ⟨⟨vs, v, .of h1, hv⟩, ?_⟩
  rintro u H2 ⟨rfl, hu⟩
  have := hu vs (.of h1)
  rw [hv] at this; cases this
  exact ⟨fun _ _ z => z, rv⟩
theorem jok_range {lo : Int} {n : Nat} {ok : PHeap → Bool} : JOk K ρ H (Itr lo n) (rangeL lo n) ok := by
  intro ρ' H' h' st _ _
  refine ⟨by show n ≤ _; simp [rangeL], fun i x hx => ?_⟩
  unfold rangeL at hx
  rw [List.getElem?_map] at hx
  cases z : (List.range n)[i]? with
  | none => rw [z] at hx; cases hx
  | some c =>
    rw [z] at hx; cases hx
    obtain ⟨hi, rfl⟩ := List.getElem?_eq_some_iff.mp z
    simp at hi
    refine ⟨hi, ?_⟩
    rintro u H2 ⟨rfl, rfl⟩
    refine ⟨fun _ _ z => z, ?_⟩
    simp
    exact .int _
theorem enumL_get : ∀ (xs : List PV) (n i : Nat), (enumL n xs)[i]? = xs[i]?.map fun x => PV.tup [.int ((n + i : Nat) : Int), x]
  | [], _, _ => by simp [enumL]
  | x :: r, n, 0 => by simp [enumL]
  | x :: r, n, i + 1 => by
    simp only [enumL, List.getElem?_cons_succ]
    rw [enumL_get r (n + 1) i]
    have : n + 1 + i = n + (i + 1) := by omega
    rw [this]
theorem enumL_len : ∀ (xs : List PV) (n : Nat), (enumL n xs).length = xs.length
  | [], _ => rfl
  | x :: r, n => by simp [enumL, enumL_len r]
end
end Fx
end
section
set_option Elab.async false
set_option linter.all false
set_option maxRecDepth 100000
set_option maxHeartbeats 4000000
/-! Fx, part 4: when a text of the small language is a text of the model's. -/
namespace Fx
open PySem L2 PySem.Spec PyProof.Rows

structure MC where
  N : List Str
  sc : Scope
  fn : Str → Bool
  calm : Bool

def visB (sc : Scope) (x : Str) : Bool := match sc.names.lookup x with
  | some .local => true
  | some .cell => true
  | some .free => true
  | _ => false
def locB (sc : Scope) (x : Str) : Bool := match sc.names.lookup x with
  | some .local => true
  | some .cell => true
  | _ => false
def isLoc (sc : Scope) (x : Str) : Bool := match sc.names.lookup x with
  | some .local => true
  | _ => false
def glB (sc : Scope) (x : Str) : Bool := match sc.names.lookup x with
  | some .globalImplicit => true
  | _ => false
def notD (x : Str) : Bool := !(x == ("__debug__" : Str)) && !(x == ("__classdict__" : Str)) && !(x == ("__name__" : Str))
def stoB (c : MC) (x : Str) : Bool := locB c.sc x && (c.fn x || isLoc c.sc x)
def notMark : Expr → Bool
  | .Set _ _ _ => false
  | _ => true
def notStar : Expr → Bool
  | .Starred _ _ => false
  | _ => true
def notSlice : Expr → Bool
  | .Slice _ _ _ _ => false
  | _ => true
def notSuper : Expr → Bool
  | .Call (.Name id _) [] [] _ => id != ("super" : Str)
  | _ => true
def notComp : Expr → Bool
  | .ListComp _ _ _ _ => false
  | .SetComp _ _ _ _ => false
  | .DictComp _ _ _ _ _ => false
  | _ => true
def notTup : Expr → Bool
  | .Tuple _ _ _ => false
  | _ => true
def isName : Expr → Bool
  | .Name _ _ => true
  | _ => false
def bmName : BM → Str × String × String
  | .index => ("index", "str", "str.index")
  | .rjust => ("rjust", "str", "str.rjust")
  | .find => ("find", "str", "str.find")
  | .find3 => ("find", "str", "str.find")
  | .join => ("join", "str", "str.join")
  | .append => ("append", "list", "list.append")
def istName : IsT → String
  | .str => "str" | .int => "int" | .bool => "bool" | .tuple => "tuple" | .list => "list"
/-- may be asked as a test -/
def tOk : IE → Bool
  | .ite _ _ _ => false
  | .bl _ => true
  | _ => true
def own? (own : List (Str × Nat)) (i : Nat) : Bool := (own.map (·.2)).contains i
def mNames (c : MC) : List Nat → List Expr → Bool
  | [], [] => true
  | i :: is, .Name x _ :: es => decide (c.N[i]? = some x) && stoB c x && mNames c is es
  | _, _ => false
def mT (c : MC) (t : ITg) (e : Expr) : Bool := match t, e with
  | .name i, .Name x _ => decide (c.N[i]? = some x) && stoB c x
  | .tup is, .Tuple es _ _ => c.calm && mNames c is es
  | _, _ => false
def tgOwn (own : List (Str × Nat)) : ITg → Bool
  | .name i => own? own i
  | .tup is => is.all (own? own)
section
variable (cfg : Cfg)
mutual
def mE (c : MC) : IE → Expr → Bool
  | .var i, e => match e with
    | .Name x _ => decide (c.N[i]? = some x) && visB c.sc x && notD x
    | _ => false
  | .int i, e => match e with
    | .Constant (.int j) _ _ => decide (i = j)
    | _ => false
  | .str s, e => match e with
    | .Constant (.str t) _ _ => decide (s = t)
    | _ => false
  | .bl b, e => match e with
    | .Constant (.bool d) _ _ => b == d
    | _ => false
  | .non, e => match e with
    | .Constant .none _ _ => true
    | _ => false
  | .glob g, e => match e with
    | .Name x _ => glB c.sc x && notD x && (match cfg.globs g with | some (y, _) => decide (x = y) | none => false)
    | _ => false
  | .bin op a b, e => match e with
    | .BinOp l o r _ => decide (op = o) && mE c a l && mE c b r
    | _ => false
  | .neg a, e => match e with
    | .UnaryOp .USub x _ => mE c a x
    | _ => false
  | .cmp op a b, e => match e with
    | .Compare l [o] [r] _ => decide (op = o) && notMark r && mE c a l && mE c b r
    | _ => false
  | .chain op op' a b d, e => match e with
    | .Compare l [o, o'] [r, r'] _ => decide (op = o) && decide (op' = o') && notMark r' && mE c a l && mE c b r && mE c d r'
    | _ => false
  | .bool op xs, e => match e with
    | .BoolOp o vs _ => decide (op = o) && mB c xs vs
    | _ => false
  | .not a, e => match e with
    | .UnaryOp .Not x _ => tOk a && mE c a x
    | _ => false
  | .ite t a b, e => match e with
    | .IfExp ct x y _ => tOk t && mE c t ct && mE c a x && mE c b y
    | _ => false
  | .call f args, e => match e with
    | .Call (.Name x _) es [] _ => c.calm && glB c.sc x && notD x && (match cfg.fns f with | some F => decide (x = F.name) | none => false) && mEs c args es
    | _ => false
  | .bcall f args, e => match e with
    | .Call (.Name x _) es [] _ => c.calm && glB c.sc x && notD x && decide (x = Str.ofString (bfName f)) && !es.isEmpty && mEs c args es
    | _ => false
  | .isi a t, e => match e with
    | .Call (.Name x _) [y, .Name z _] [] _ => glB c.sc x && decide (x = Str.ofString "isinstance") && glB c.sc z && decide (z = Str.ofString (istName t)) && notStar y && mE c a y
    | _ => false
  | .meth m o args, e => match e with
    | .Call (.Attribute ob name apos) es [] cpos => c.calm && decide (name = (bmName m).1) && notSuper ob && (apos.endLine == cpos.line) && !es.isEmpty && decide (es.length < 20) && mE c o ob && mEs c args es
    | _ => false
  | .tup xs, e => match e with
    | .Tuple es _ _ => decide (es.length ≤ 1000) && mEs c xs es
    | _ => false
  | .list _ xs, e => match e with
    | .List es _ => decide (es.length ≤ 1000) && mEs c xs es
    | _ => false
  | .sub a i, e => match e with
    | .Subscript x y _ => notSlice y && mE c a x && mE c i y
    | _ => false
  | .slice a lo hi, e => match e with
    | .Subscript x (.Slice l u none _) _ => mE c a x && mO c lo l && mO c hi u
    | _ => false
  | .comp elt tg it ifs own, e => match e with
    | .ListComp el [⟨t, i, fs, 0⟩] scope _ => c.calm && mI c it t i && notMark i && blkC c.N c.sc scope own && tgOwn own tg &&
        mT ⟨c.N, relS scope c.sc, fun x => scope.names.lookup x == some .cell, c.calm⟩ tg t &&
        mF ⟨c.N, relS scope c.sc, fun x => scope.names.lookup x == some .cell, c.calm⟩ ifs fs &&
        mE ⟨c.N, relS scope c.sc, fun x => scope.names.lookup x == some .cell, c.calm⟩ elt el
    | _ => false
def mEs (c : MC) : IEs → List Expr → Bool
  | .nil, es => es.isEmpty
  | .cons a r, es => match es with
    | e :: es => notStar e && mE c a e && mEs c r es
    | [] => false
def mB (c : MC) : IEs → List Expr → Bool
  | .nil, _ => false
  | .cons a r, es => match es with
    | [] => false
    | e :: es => tOk a && mE c a e && (match r, es with
      | .nil, [] => true
      | .nil, _ :: _ => false
      | .cons _ _, _ => mB c r es)
/-- a comprehension's tests -/
def mF (c : MC) : IEs → List Expr → Bool
  | .nil, es => es.isEmpty
  | .cons a r, es => match r, es with
    | .nil, [e] => tOk a && mE c a e
    | _, _ => false
def mO (c : MC) : IO → Option Expr → Bool
  | .none, e => e.isNone
  | .some a, e => match e with
    | some x => mE c a x
    | none => false
/-- what is walked, to the target t -/
def mI (c : MC) : II → Expr → Expr → Bool
  | .seq a, _, e => mE c a e
  | .range1 a, _, e => match e with
    | .Call (.Name x _) [y] [] _ => glB c.sc x && decide (x = Str.ofString "range") && notStar y && mE c a y
    | _ => false
  | .range2 a b, _, e => match e with
    | .Call (.Name x _) [y, z] [] _ => glB c.sc x && decide (x = Str.ofString "range") && notStar y && notStar z && mE c a y && mE c b z
    | _ => false
  | .enum a, t, e => match t with
    | .Tuple _ _ _ => (match e with
      | .Call (.Name x _) [y] [] _ => glB c.sc x && decide (x = Str.ofString "enumerate") && notStar y && mE c a y
      | _ => false)
    | _ => false
end
/-- a, b = x, y : which stores are swapped -/
def swKind (sc : Scope) (ts vs : List Expr) : Option (Option (List Str)) :=
  if !(ts.length == 2 || ts.length == 3) || vs.length != ts.length then some none else
  if vs.any (fun | .Starred .. => true | _ => false) then some none else
  let line := (ts.head?.map (·.pos.line)).getD 0
  let names := ts.filterMap fun
    | .Name id pos => if sc.names.lookup id == some .local && pos.line == line then some id else none
    | _ => none
  if names.length != ts.length || names.eraseDups.length != names.length then some none else
  if vs.all (foldedForSure 8) then some none else
  if vs.all (constantsAlone 8) then none else some (some names)
def isLC : Expr → Bool
  | .ListComp _ _ _ _ => true
  | _ => false
mutual
def mS (c : MC) : IS → Stmt → Bool
  | .expr a, s => match s with
    | .Expr e _ => notComp e && mE cfg c a e
    | _ => false
  | .ret a, s => match s with
    | .Return (some e) _ => mE cfg c a e
    | _ => false
  | .retN, s => match s with
    | .Return none _ => true
    | _ => false
  | .asg t a, s => match s with
    | .Assign [tg] e _ => mT c t tg && (notTup e || isName tg) && mE cfg c a e && (match tg with
      | .Name _ _ => notComp e || isLC e
      | _ => notComp e)
    | _ => false
  | .par i j a b, s => match s with
    | .Assign [.Tuple [.Name x px, .Name y py] k p] (.Tuple [e, f] k2 p2) _ => c.calm && decide (i ≠ j) && decide (c.N[i]? = some x) && decide (c.N[j]? = some y) && stoB c x && stoB c y && notStar e && notStar f && mE cfg c a e && mE cfg c b f &&
        (match swKind c.sc [.Name x px, .Name y py] [e, f] with
        | some none => true
        | some (some ns) => decide (ns = [x, y]) && isLoc c.sc x && isLoc c.sc y
        | none => false)
    | _ => false
  | .aug op i a, s => match s with
    | .AugAssign (.Name x _) o e _ => decide (op = o) && decide (c.N[i]? = some x) && stoB c x && mE cfg c a e
    | _ => false
  | .ifS t a b, s => match s with
    | .If e x y _ => tOk t && mE cfg c t e && mSs c a x && mSs c b y
    | _ => false
  | .forS t it body, s => match s with
    | .For tg i b [] _ => c.calm && mI cfg c it tg i && notMark i && mT c t tg && mSs c body b
    | _ => false
  | .whileS t body, s => match s with
    | .While e b [] _ => tOk t && mE cfg c t e && mSs c body b
    | _ => false
  | .raise x msg, s => match s with
    | .Raise (some (.Call (.Name n _) [.Constant (.str m) _ _] [] _)) none _ => c.calm && glB c.sc n && notD n && decide (cfg.excs x = some n) && decide (m = msg)
    | _ => false
  | .tryS body hs, s => match s with
    | .Try b hds [] [] _ => !hds.isEmpty && mSs c body b && mH c hs hds
    | _ => false
  | .pass, s => match s with
    | .Pass _ => true
    | _ => false
  | .brk, s => match s with
    | .Break _ => true
    | _ => false
  | .cont, s => match s with
    | .Continue _ => true
    | _ => false
def mSs (c : MC) : ISs → List Stmt → Bool
  | .nil, ss => ss.isEmpty
  | .cons a r, ss => match ss with
    | s :: ss => mS c a s && mSs c r ss
    | [] => false
def mH (c : MC) : IHs → List ExceptHandler → Bool
  | .nil, hs => hs.isEmpty
  | .cons x s r, hs => match hs with
    | .ExceptHandler (some (.Name n _)) none (b :: su) _ :: hs => glB c.sc n && notD n && decide (cfg.excs x = some n) && mSs ⟨c.N, c.sc, c.fn, false⟩ s (b :: su) && mH c r hs
    | _ => false
end
end
end Fx
end
section
set_option Elab.async false
set_option linter.all false
set_option maxRecDepth 100000
set_option maxHeartbeats 4000000
/-! Fx, part 5: the evaluator tells what the model does. -/
namespace Fx
open PySem L2 PySem.Spec PyProof.Rows

/-! ### states, wishes -/
structure SR (K : PySem.W.Frag) (ρ : List Addr) (H : Hp) (σ : PSt) (τ : L2.St) : Prop where
  len : σ.length = τ.length
  at_ : ∀ (i : Nat) (x : PV), σ[i]? = some (some x) → ∃ v, τ[i]? = some (some v) ∧ Rep K ρ H x v
theorem SR.mono {K : PySem.W.Frag} {ρ ρ' : List Addr} {H H' : Hp} {σ : PSt} {τ : L2.St} (s : SR K ρ H σ τ) (st : Step ρ H ρ' H') : SR K ρ' H' σ τ :=
  ⟨s.len, fun i x e => let ⟨v, h1, h2⟩ := s.at_ i x e; ⟨v, h1, h2.mono st⟩⟩
theorem SR.set {K : PySem.W.Frag} {ρ : List Addr} {H : Hp} {σ : PSt} {τ : L2.St} (s : SR K ρ H σ τ) {x : PV} {v : V} (r : Rep K ρ H x v) (i : Nat) : SR K ρ H (σ.set i (some x)) (τ.set i (some v)) := by
  refine ⟨by simp [s.len], fun j y e => ?_⟩
  by_cases hij : i = j
  · subst hij
    have hl : i < σ.length := by
      have := (List.getElem?_eq_some_iff.mp e).1
      simpa using this
    rw [List.getElem?_set_self hl] at e
    cases e
    exact ⟨v, by rw [List.getElem?_set_self (by rw [← s.len]; exact hl)], r⟩
  · rw [List.getElem?_set_ne hij] at e ⊢
    exact s.at_ j y e
theorem SR.forget {K : PySem.W.Frag} {ρ : List Addr} {H : Hp} {σ : PSt} {τ : L2.St} (s : SR K ρ H σ τ) (i : Nat) : SR K ρ H (σ.set i none) (τ.set i none) := by
  refine ⟨by simp [s.len], fun j y e => ?_⟩
  by_cases hij : i = j
  · subst hij
    have hl : i < σ.length := by
      have := (List.getElem?_eq_some_iff.mp e).1
      simpa using this
    rw [List.getElem?_set_self hl] at e
    cases e
  · rw [List.getElem?_set_ne hij] at e ⊢
    exact s.at_ j y e
theorem SR.wipe {K : PySem.W.Frag} {ρ : List Addr} {H : Hp} {σ : PSt} {τ : L2.St} (s : SR K ρ H σ τ) : ∀ vs : List Nat, SR K ρ H (wipeP σ vs) (L2.wipe τ vs)
  | [] => s
  | v :: vs => (SR.wipe s vs).forget v

/-- what is wanted of an answer (with values told by R) -/
def Post (K : PySem.W.Frag) (cn : Nat → Value) (W : WX) (ρ : List Addr) (H : Hp) (τ : L2.St) {α : Type} (r : Res α) (G : List Addr → Hp → PHeap → α → Prop) : Prop := match r with
  | .ok x h' => ∀ ρ' H', Step ρ H ρ' H' → HR K ρ' H' h' → G ρ' H' h' x
  | .exc c h' => ∀ ρ' H', Step ρ H ρ' H' → HR K ρ' H' h' → W (cn c) none τ H'
  | .stuck => False
section
variable {K : PySem.W.Frag} {cn : Nat → Value} {W : WX} {ρ ρ' : List Addr} {H H' : Hp} {τ : L2.St} {α β : Type}
theorem Post.mono {r : Res α} {G : List Addr → Hp → PHeap → α → Prop} (p : Post K cn W ρ H τ r G) (s : Step ρ H ρ' H') : Post K cn W ρ' H' τ r G := by
  cases r with
  | ok x h => exact fun ρ2 H2 t q => p ρ2 H2 (s.trans t) q
  | exc c h => exact fun ρ2 H2 t q => p ρ2 H2 (s.trans t) q
  | stuck => exact p
/-- first r, then f -/
theorem Post.bind {r : Res α} {f : α → PHeap → Res β} {G : List Addr → Hp → PHeap → β → Prop} (p : Post K cn W ρ H τ (r.bind f) G) :
    Post K cn W ρ H τ r (fun ρ1 H1 h1 x => Step ρ H ρ1 H1 ∧ HR K ρ1 H1 h1 ∧ Post K cn W ρ1 H1 τ (f x h1) G) := by
  cases r with
  | ok x h => exact fun ρ1 H1 s q => ⟨s, q, Post.mono p s⟩
  | exc c h => exact p
  | stuck => exact p
theorem Post.imp {r : Res α} {G G' : List Addr → Hp → PHeap → α → Prop} (p : Post K cn W ρ H τ r G) (h : ∀ ρ' H' h' x, Step ρ H ρ' H' → HR K ρ' H' h' → G ρ' H' h' x → G' ρ' H' h' x) : Post K cn W ρ H τ r G' := by
  cases r with
  | ok x _ => exact fun ρ1 H1 s q => h _ _ _ _ s q (p ρ1 H1 s q)
  | exc c _ => exact p
  | stuck => exact p
/-- a pure answer -/
theorem Post.lift {o : Option α} {h : PHeap} {G : List Addr → Hp → PHeap → α → Prop} (p : Post K cn W ρ H τ (lift o h) G) : ∃ x, o = some x ∧ ∀ ρ' H', Step ρ H ρ' H' → HR K ρ' H' h → G ρ' H' h x := by
  cases o with
  | none => exact p.elim
  | some x => exact ⟨x, rfl, p⟩
end
/-- the reading of an expression with the meaning m -/
def RdE (K : PySem.W.Frag) (cn : Nat → Value) (W : WX) (m : PSt → PHeap → Res PV) : TE := fun τ H Q => ∃ ρ σ h, SR K ρ H σ τ ∧ HR K ρ H h ∧
  Post K cn W ρ H τ (m σ h) fun ρ' H' _ x => ∀ v, Rep K ρ' H' x v → Q v H'
def RdT (K : PySem.W.Frag) (cn : Nat → Value) (W : WX) (m : PSt → PHeap → Res Bool) : TT := fun τ H Q => ∃ ρ σ h, SR K ρ H σ τ ∧ HR K ρ H h ∧
  Post K cn W ρ H τ (m σ h) fun _ H' _ x => Q x H'
def RdA (K : PySem.W.Frag) (cn : Nat → Value) (W : WX) (m : PSt → PHeap → Res (List PV)) : TA := fun τ H Q => ∃ ρ σ h, SR K ρ H σ τ ∧ HR K ρ H h ∧
  Post K cn W ρ H τ (m σ h) fun ρ' H' _ x => ∀ vs, Reps K ρ' H' x vs → Q vs H'
def RdO (K : PySem.W.Frag) (cn : Nat → Value) (W : WX) (m : PSt → PHeap → Res (Option Int)) : TO := fun τ H Q => ∃ ρ σ h, SR K ρ H σ τ ∧ HR K ρ H h ∧
  Post K cn W ρ H τ (m σ h) fun _ H' _ x => Q x H'
def RdI (K : PySem.W.Frag) (cn : Nat → Value) (W : WX) (m : PSt → PHeap → Res (List PV × Option Nat)) : TI := fun τ H R => ∃ ρ σ h, SR K ρ H σ τ ∧ HR K ρ H h ∧
  Post K cn W ρ H τ (m σ h) fun ρ' H' _ w => ∀ J, JOk K ρ' H' J w.1 (stays w.1 w.2) → R J H'

theorem PE.imp {X : Cx} {e : Expr} {t t' : TE} (h : PE X e t) (k : ∀ σ H Q, t' σ H Q → t σ H Q) : PE X e t' := ⟨fun pins s σ H Q I q => h.run pins s σ H Q I (k σ H Q q)⟩
theorem PT.imp {X : Cx} {e : Expr} {t t' : TT} (h : PT X e t) (k : ∀ σ H Q, t' σ H Q → t σ H Q) : PT X e t' := ⟨fun pins s σ H Q I q => h.run pins s σ H Q I (k σ H Q q)⟩
theorem PW.imp {X : Cx} {e : Expr} {t t' : TT} (h : PW X e t) (k : ∀ σ H Q, t' σ H Q → t σ H Q) : PW X e t' := ⟨fun whole pins s σ H Q I q => h.run whole pins s σ H Q I (k σ H Q q)⟩
theorem PA.imp {X : Cx} {e : List Expr} {t t' : TA} (h : PA X e t) (k : ∀ σ H Q, t' σ H Q → t σ H Q) : PA X e t' := ⟨fun pos pins s σ H Q I q => h.run pos pins s σ H Q I (k σ H Q q)⟩
theorem PS.imp {X : Cx} {e : Stmt} {t t' : TS} (h : PS X e t) (k : ∀ D σ H, t' D σ H → t D σ H) : PS X e t' := ⟨fun pins s σ H D I q => h.run pins s σ H D I (k D σ H q)⟩
theorem PSs.imp {X : Cx} {e : List Stmt} {t t' : TS} (h : PSs X e t) (k : ∀ D σ H, t' D σ H → t D σ H) : PSs X e t' := ⟨fun pins s σ H D I q => h.run pins s σ H D I (k D σ H q)⟩
theorem PO.imp {X : Cx} {e : Option Expr} {t t' : TO} (h : PO X e t) (k : ∀ σ H Q, t' σ H Q → t σ H Q) : PO X e t' := ⟨fun pins s σ H Q I q => h.run pins s σ H Q I (k σ H Q q)⟩
theorem PI.imp {X : Cx} {tg e : Expr} {t t' : TI} (h : PI X tg e t) (k : ∀ σ H Q, t' σ H Q → t σ H Q) : PI X tg e t' := ⟨fun pins s σ H Q I q => h.run pins s σ H Q I (k σ H Q q)⟩
theorem PTs.imp {X : Cx} {e : List Expr} {t t' : TT} (h : PTs X e t) (k : ∀ σ H Q, t' σ H Q → t σ H Q) : PTs X e t' := ⟨fun pins s σ H Q I q => h.run pins s σ H Q I (k σ H Q q)⟩

/-! ### facts of the text, of a context -/
def spF (K : PySem.W.Frag) (cn : Nat → Value) (m : List PV → PHeap → Res PV) (n : Nat) : Sp := fun vs H Q E => vs.length = n ∧ ∃ ρ h xs, HR K ρ H h ∧ Reps K ρ H xs vs ∧
  Post K cn (fun cls d _ H' => E cls d H') ρ H [] (m xs h) fun ρ' H' _ x => ∀ v, Rep K ρ' H' x v → Q v H'
def bltNames : List Str := ["len", "all", "any", "sum", "str", "int", "abs", "min", "max", "tuple", "list", "isinstance", "range", "enumerate", "bool"]
structure Facts (cfg : Cfg) (P : Program) (w : World) (K : PySem.W.Frag) (mg : Str → Option Value) (base : Heap) (k : Nat) (fa ea : Nat → Addr) : Prop where
  fns : ∀ (i : Nat) F, cfg.fns i = some F → ∃ fd, mg F.name = some (.ref (fa i)) ∧ PySem.W.keepIn K (.ref (fa i)) = true ∧ Binds K fd F.params [] ∧
    FnOk P w K mg base (CX P w) k (fa i) fd F.params (spF K (fun c => .ref (ea c)) (run cfg k i) F.params.length)
  glob : ∀ (g : Nat) x v, cfg.globs g = some (x, v) → ∃ u V, mg x = some u ∧ RelV V u ∧ ∀ ρ H, Rep K ρ H v V
  excs : ∀ (c : Nat) x, cfg.excs c = some x → mg x = some (.ref (ea c)) ∧ PySem.W.keepIn K (.ref (ea c)) = true ∧ PySem.W.excIn K (ea c) [.type "ValueError", .type "Exception", .type "BaseException", .type "object"] "ValueError.__new__" = true ∧
    PySem.W.subIn K (.ref (ea c)) (.type "BaseException") = some true ∧ PySem.W.typeIn K (.ref (ea c)) = some (.type "type")
  sub : ∀ c c', (cfg.excs c).isSome = true → (cfg.excs c').isSome = true → PySem.W.exmOne K (.ref (ea c)) (.ref (ea c')) = some (cfg.sub c c')
  blt : ∀ x ∈ bltNames, mg x = none
structure Good (cfg : Cfg) (X : Cx) (c : MC) (k : Nat) (fa ea : Nat → Addr) (W : WX) : Prop where
  N : X.N = c.N
  sc : X.env.scope = c.sc
  nd : X.N.Nodup
  calm : c.calm = true → X.calm = true
  fn : ∀ x, c.fn x = true → X.fn x = true
  tk : Takes X W
  room : c.calm = true → Room k X.A
  hu : X.A.units + 65 < cLine
  facts : Facts cfg X.prog X.w X.K X.mg X.base k fa ea
section
variable {cfg : Cfg} {X : Cx} {c : MC} {k : Nat} {fa ea : Nat → Addr} {W : WX}
theorem Good.vis (G : Good cfg X c k fa ea W) {x : Str} (h : visB c.sc x = true) : Vis X.env.scope x := by
  rw [G.sc]
  unfold visB at h
  unfold Vis
  split at h <;> simp_all
theorem Good.loc (G : Good cfg X c k fa ea W) {x : Str} (h : locB c.sc x = true) : L2.Loc X.env.scope x := by
  rw [G.sc]
  unfold locB at h
  unfold L2.Loc
  split at h <;> simp_all
theorem Good.isl (G : Good cfg X c k fa ea W) {x : Str} (h : isLoc c.sc x = true) : X.env.scope.names.lookup x = some .local := by
  rw [G.sc]
  unfold isLoc at h
  split at h <;> simp_all
theorem Good.gl (G : Good cfg X c k fa ea W) {x : Str} (h : glB c.sc x = true) : Gl X x := by
  show X.env.scope.names.lookup x = _
  rw [G.sc]
  unfold glB at h
  split at h <;> simp_all
theorem Good.sto (G : Good cfg X c k fa ea W) {x : Str} (h : stoB c x = true) : L2.Loc X.env.scope x ∧ (X.fn x = true ∨ X.env.scope.names.lookup x = some .local) := by
  unfold stoB at h
  simp only [Bool.and_eq_true, Bool.or_eq_true] at h
  refine ⟨G.loc h.1, ?_⟩
  rcases h.2 with h | h
  · exact .inl (G.fn x h)
  · exact .inr (G.isl h)
end
theorem notD_of {x : Str} (h : notD x = true) : (x == ("__debug__" : Str)) = false ∧ (x == ("__classdict__" : Str)) = false ∧ x ≠ "__name__" := by
  unfold notD at h
  simp only [Bool.and_eq_true, Bool.not_eq_true', beq_eq_false_iff_ne] at h
  exact ⟨by simpa using h.1.1, by simpa using h.1.2, h.2⟩
theorem mark_of {op : CmpOp} {e : Expr} (h : notMark e = true) : behindInMarks op e = false := by
  cases e <;> first | rfl | (cases h)
theorem starE {e : Expr} {es : List Expr} {env : Env} (h : notStar e = true) : starEach (e :: es) env = (false, eval e env) :: starEach es env := by
  cases e <;> first | rfl | (cases h)
theorem set_of {e : Expr} {env : Env} (h : notMark e = true) : ∀ x, foldedSetIterable e env x = pure x := by
  intro x
  cases e <;> first | rfl | (cases h)
theorem base_of {e : Expr} {f : Str} {env : Env} (h : notSuper e = true) (whole : Sem Value) : attributeBase e f env whole = whole := by
  unfold attributeBase
  cases e with
  | Call fn args kws pos =>
    cases fn with
    | Name id p =>
      cases args with
      | nil =>
        cases kws with
        | nil =>
          have h2 : (id != ("super" : Str)) = true := h
          show (if (id != ("super" : Str) || _ || _ || _) = true then _ else _) = _
          rw [h2]
          rfl
        | cons a b => rfl
      | cons a b => rfl
    | _ => rfl
  | _ => rfl
end Fx
end
section
set_option Elab.async false
set_option linter.all false
set_option maxRecDepth 100000
set_option maxHeartbeats 8000000
/-! Fx, part 5b: expressions. -/
namespace Fx
open PySem L2 PySem.Spec PyProof.Rows
theorem bind_assoc {α β γ : Type} (r : Res α) (f : α → PHeap → Res β) (g : β → PHeap → Res γ) : (r.bind f).bind g = r.bind fun x h => (f x h).bind g := by
  cases r <;> rfl
abbrev cnE (ea : Nat → Addr) : Nat → Value := fun c => .ref (ea c)
section
variable {X : Cx} {W : WX} {cn : Nat → Value} {ast : Expr} {m : PSt → PHeap → Res PV}
theorem op_binV (hu : X.A.units + 65 < cLine) : ∀ op, OpR X (binaryOp op) (rB X.K (binV op))
  | .Add => op_addV hu
  | .Sub => op_subV
  | .Mult => op_mulV
  | .FloorDiv => op_fdivV
  | .Mod => op_modV
  | .Pow => op_powV
  | .MatMult => fun _ _ _ _ _ _ _ _ _ _ _ _ ⟨_, _, _, _, _, _, _, _, e, _⟩ => nomatch e
  | .Div => fun _ _ _ _ _ _ _ _ _ _ _ _ ⟨_, _, _, _, _, _, _, _, e, _⟩ => nomatch e
  | .LShift => fun _ _ _ _ _ _ _ _ _ _ _ _ ⟨_, _, _, _, _, _, _, _, e, _⟩ => nomatch e
  | .RShift => fun _ _ _ _ _ _ _ _ _ _ _ _ ⟨_, _, _, _, _, _, _, _, e, _⟩ => nomatch e
  | .BitOr => fun _ _ _ _ _ _ _ _ _ _ _ _ ⟨_, _, _, _, _, _, _, _, e, _⟩ => nomatch e
  | .BitXor => fun _ _ _ _ _ _ _ _ _ _ _ _ ⟨_, _, _, _, _, _, _, _, e, _⟩ => nomatch e
  | .BitAnd => fun _ _ _ _ _ _ _ _ _ _ _ _ ⟨_, _, _, _, _, _, _, _, e, _⟩ => nomatch e
theorem ptOf (h : PE X ast (RdE X.K cn W m)) (hw : ∀ whole, isTrue ast X.env whole = (do let v ← whole; standAt ast.pos; holding [v] (truthy v))) :
    PT X ast (RdT X.K cn W fun σ h => truR (m σ h)) := by
  refine PT.imp (pt_truth h hw) fun τ H Q ⟨ρ, σ, h, sr, hr, p⟩ => ⟨ρ, σ, h, sr, hr, (Post.bind p).imp ?_⟩
  intro ρ1 H1 h1 x _ _ ⟨st, hr1, p1⟩ v rv
  obtain ⟨b, e, w⟩ := Post.lift p1
  exact ⟨b, tru_of hr1 rv e, w ρ1 H1 hr1.step hr1⟩
/-- a test whose answer is a truth value -/
theorem testOf {K : PySem.W.Frag} {t : TE} (k : ∀ τ H Q, RdE K cn W m τ H Q → t τ H Q) (hb : ∀ σ h x h', m σ h = .ok x h' → ∃ b, x = .bl b) :
    ∀ τ H Q, RdT K cn W (fun σ h => truR (m σ h)) τ H Q → t τ H fun x H' => ∃ b, x = .bl b ∧ Q b H' := by
  intro τ H Q ⟨ρ, σ, h, sr, hr, p⟩
  refine k _ _ _ ⟨ρ, σ, h, sr, hr, ?_⟩
  have p : Post K cn W ρ H τ (truR (m σ h)) _ := p
  cases e : m σ h with
  | ok x h' =>
    rw [e] at p
    obtain ⟨b, rfl⟩ := hb _ _ _ _ e
    intro ρ' H' st hr' v rv
    cases rv
    exact ⟨b, rfl, p ρ' H' st hr'⟩
  | exc c h' => rw [e] at p; exact p
  | stuck => rw [e] at p; exact p
theorem bl_lift {o : Option Bool} {h : PHeap} {x : PV} {h' : PHeap} (e : lift (o.map PV.bl) h = .ok x h') : ∃ b, x = .bl b := by
  cases o with
  | none => cases e
  | some b => cases e; exact ⟨b, rfl⟩
theorem bind_ok_of {α β : Type} {r : Res α} {f : α → PHeap → Res β} {x : β} {h' : PHeap} (e : r.bind f = .ok x h') : ∃ y h1, r = .ok y h1 ∧ f y h1 = .ok x h' := by
  cases r with
  | ok y h1 => exact ⟨y, h1, rfl, e⟩
  | exc c h1 => cases e
  | stuck => cases e
end
theorem starNo {env : Env} {pos : Pos} : ∀ {as : IEs} {cfg : Cfg} {c : MC} {es : List Expr}, mEs cfg c as es = true → (backTo pos (starEach es env)).any (·.1) = false
  | .nil, _, _, [], _ => rfl
  | .nil, _, _, _ :: _, h => by simp [mEs] at h
  | .cons _ _, _, _, [], h => by simp [mEs] at h
  | .cons a r, _, _, e :: es, h => by
    simp only [mEs, Bool.and_eq_true] at h
    rw [starE h.1.1]
    have := starNo (pos := pos) (env := env) h.2
    show ((false, _) :: backTo pos (starEach es env)).any (·.1) = false
    simpa using this
section
variable {X : Cx}
theorem iter_V {tg iter : Expr} {te : TE} (he : PE X iter te) : PI X tg iter (fun σ H R => te σ H fun v H1 => ∃ ρ h x w, HR X.K ρ H1 h ∧ Rep X.K ρ H1 x v ∧ seqL h x = some w ∧ ∀ J, JOk X.K ρ H1 J w.1 (stays w.1 w.2) → R J H1) := by
  refine ⟨fun pins s σ H R I h => ?_⟩
  refine thn (he.run pins s σ H _ I h) fun v s1 ⟨y, H1, I1, r1, ρ, h, x, w, hr, p, e, q⟩ => ?_
  cases p with
  | tup qi rs =>
    cases e
    rename_i xs vs a
    cases r1
    obtain ⟨its, rv, pp, hz⟩ := I1.tuple qi.t
    refine wpAny_pyIter_tuple (show s1.heap.IsTuple a its.toArray from pp) ?_
    refine ⟨s1.heap.objs.size, [s1.heap.objs.size], _, _, H1, rfl, I1.kept (t' := s1.toks) fun b o e => Heap.get?_push_of_some _ e, turn_tuple a _, ⟨_, Heap.get?_push_size _ rfl, rfl, rfl⟩, fun b hb => ?_, q _ (jok_tup qi rs)⟩
    have e : b = s1.heap.objs.size := by simpa using hb
    subst e
    exact I1.fpOk (Nat.le_refl _) (I1.hok.fresh (Nat.le_refl _))
  | lst na qe rs =>
    cases e
    rename_i xs vs a
    cases r1
    obtain ⟨its, rv, pp, hz⟩ := I1.list (.of qe)
    refine wpAny_pyIter_list pp.isList ?_
    refine ⟨s1.heap.objs.size, [s1.heap.objs.size], _, _, H1, rfl, I1.kept (t' := s1.toks) fun b o e => Heap.get?_push_of_some _ e, turn_list a _, ⟨_, Heap.get?_push_size _ rfl, rfl, rfl⟩, fun b hb => ?_, q _ (jok_list na qe rs)⟩
    have e : b = s1.heap.objs.size := by simpa using hb
    subst e
    exact I1.fpOk (Nat.le_refl _) (I1.hok.fresh (Nat.le_refl _))
  | str z =>
    cases e
    obtain ⟨t, rfl⟩ := r1
    cases ha : z.cps.all (· < 128)
    · exact wpAny_pyIter_wide ha (pi_one (tk := s1.toks) I1 _ (turn_str _ z t "str_iterator" (.inr rfl)) ⟨_, Heap.get?_push_size _ rfl, rfl, rfl⟩ (q _ jok_str))
    · exact wpAny_pyIter_ascii ha (pi_one (tk := s1.toks) I1 _ (turn_str _ z t "str_ascii_iterator" (.inl rfl)) ⟨_, Heap.get?_push_size _ rfl, rfl, rfl⟩ (q _ jok_str))
  | ref qe =>
    rename_i n a
    obtain ⟨xs, e1, rfl⟩ := Option.map_eq_some_iff.mp (show (asL h (.ref n)).map (fun xs => (xs, some n)) = some w from e)
    obtain ⟨a', vs, h1, h2, h3⟩ := asL_of hr (.ref qe) e1
    cases h1
    cases r1
    obtain ⟨its, rv, pp, hz⟩ := I1.list (.of h2)
    refine wpAny_pyIter_list pp.isList ?_
    refine ⟨s1.heap.objs.size, [s1.heap.objs.size], _, _, H1, rfl, I1.kept (t' := s1.toks) fun b o e => Heap.get?_push_of_some _ e, turn_list a _, ⟨_, Heap.get?_push_size _ rfl, rfl, rfl⟩, fun b hb => ?_, q _ (jok_ref qe)⟩
    have e : b = s1.heap.objs.size := by simpa using hb
    subst e
    exact I1.fpOk (Nat.le_refl _) (I1.hok.fresh (Nat.le_refl _))
  | _ => cases e
theorem jok_enumL {K : PySem.W.Frag} {ρ : List Addr} {H : Hp} {xs : List PV} {a : Addr} {vs : List V} (n : a ∉ ρ) (e : H a = some (.lst vs)) (r : Reps K ρ H xs vs) {ok : PHeap → Bool} : JOk K ρ H (Ite K a) (enumL 0 xs) ok := by
  intro ρ' H' h' st hr _
  have e' := st.keep a _ n e
  have r' := r.mono st
  refine ⟨⟨vs, .of e', by rw [enumL_len, r.length]; exact Nat.le_refl _⟩, fun i x hx => ?_⟩
  rw [enumL_get] at hx
  obtain ⟨y, hy, rfl⟩ := Option.map_eq_some_iff.mp hx
  obtain ⟨v, hv, rv⟩ := r'.get hy
  refine ⟨⟨vs, v, .of e', hv⟩, ?_⟩
  rintro u H2 ⟨T, v2, rfl, hT, rfl, hu⟩
  have := hu vs (.of e')
  rw [hv] at this; cases this
  have st2 := Step.new (o := HO.tup [.int (i : Nat), v]) hr.dom hT
  have np : T ∉ ρ' := fun m => by obtain ⟨o, e⟩ := hr.dom T m; rw [hT] at e; cases e
  refine ⟨fun b o q => by rw [upd_ne (ne_of_none q hT)]; exact q, .tup (.inl ⟨np, upd_same⟩) ?_⟩
  rw [Nat.zero_add]
  exact .cons (.int _) (.cons (rv.mono st2) .nil)
theorem jok_enumT {K : PySem.W.Frag} {ρ : List Addr} {H : Hp} {xs : List PV} {a : Addr} {vs : List V} (q : SqI K ρ H a vs) (r : Reps K ρ H xs vs) {ok : PHeap → Bool} : JOk K ρ H (IteT K a) (enumL 0 xs) ok := by
  intro ρ' H' h' st hr _
  have q' : SqT K H' a vs := by
    rcases q with ⟨n, e⟩ | q
    · exact .of (st.keep a _ n e)
    · exact .inr q
  have r' := r.mono st
  refine ⟨⟨vs, q', by rw [enumL_len, r.length]⟩, fun i x hx => ?_⟩
  rw [enumL_get] at hx
  obtain ⟨y, hy, rfl⟩ := Option.map_eq_some_iff.mp hx
  obtain ⟨v, hv, rv⟩ := r'.get hy
  refine ⟨⟨vs, v, q', hv⟩, ?_⟩
  rintro u H2 ⟨T, v2, rfl, hT, rfl, hu⟩
  have := hu vs q'
  rw [hv] at this; cases this
  have st2 := Step.new (o := HO.tup [.int (i : Nat), v]) hr.dom hT
  have np : T ∉ ρ' := fun m => by obtain ⟨o, e⟩ := hr.dom T m; rw [hT] at e; cases e
  refine ⟨fun b o q => by rw [upd_ne (ne_of_none q hT)]; exact q, .tup (.inl ⟨np, upd_same⟩) ?_⟩
  rw [Nat.zero_add]
  exact .cons (.int _) (.cons (rv.mono st2) .nil)
theorem jok_enumS {K : PySem.W.Frag} {ρ : List Addr} {H : Hp} {z : Str} {ok : PHeap → Bool} : JOk K ρ H (IteS z) (enumL 0 (chars z)) ok := by
  intro ρ' H' h' st hr _
  refine ⟨by show z.cps.size = _; rw [enumL_len]; simp [chars], fun i x hx => ?_⟩
  rw [enumL_get] at hx
  obtain ⟨y, hy, rfl⟩ := Option.map_eq_some_iff.mp hx
  unfold chars at hy
  rw [List.getElem?_map] at hy
  obtain ⟨cc, hc, rfl⟩ := Option.map_eq_some_iff.mp hy
  have z2 : z.cps[i]? = some cc := by simpa using hc
  refine ⟨(Array.getElem?_eq_some_iff.mp z2).1, ?_⟩
  rintro u H2 ⟨T, c', rfl, hT, rfl, h1⟩
  rw [z2] at h1; cases h1
  have st2 := Step.new (o := HO.tup [.int (i : Nat), .str ⟨#[cc]⟩]) hr.dom hT
  have np : T ∉ ρ' := fun m => by obtain ⟨o, e⟩ := hr.dom T m; rw [hT] at e; cases e
  refine ⟨fun b o q => by rw [upd_ne (ne_of_none q hT)]; exact q, .tup (.inl ⟨np, upd_same⟩) ?_⟩
  rw [Nat.zero_add]
  exact .cons (.int _) (.cons (.str _) .nil)
theorem enum_V {e : Expr} {te : TE} {p pos tpos : Pos} {elts : List Expr} {kk : Nat} (hg : Gl X "enumerate") (hm : X.mg "enumerate" = none) (he : PE X e te) (hs : notStar e = true) :
    PI X (.Tuple elts kk tpos) (.Call (.Name "enumerate" p) [e] [] pos) (fun σ H R => te σ H fun v H1 => ∃ ρ h x xs, HR X.K ρ H1 h ∧ Rep X.K ρ H1 x v ∧ seqL h x = some (xs, none) ∧ ∀ J, JOk X.K ρ H1 J (enumL 0 xs) (stays (enumL 0 xs) none) → R J H1) := by
  have hst : starEach [e] X.env = [(false, eval e X.env)] := starE hs
  refine ⟨fun pins s σ H R I h => ?_⟩
  refine Call_ (ld_blt I hg hm boot_enumerate (PyProof.Rows.callWith_type1 (thn ((pa_cons he pa_nil hst).run pos pins s σ H (fun vs H1 => match vs with
    | [v] => ∃ ρ h x xs, HR X.K ρ H1 h ∧ Rep X.K ρ H1 x v ∧ seqL h x = some (xs, none) ∧ ∀ J, JOk X.K ρ H1 J (enumL 0 xs) (stays (enumL 0 xs) none) → R J H1
    | _ => False) I h) fun us s1 ⟨vs, H1, I1, r1, q1⟩ => ?_) hst rfl))
  dsimp only at q1
  split at q1
  · rename_i v
    obtain ⟨ρ, h, x, xs, hr, p, es, q⟩ := q1
    obtain ⟨u, rfl, ru⟩ := vals1 r1
    have fin : ∀ b, s1.heap.objs.size ≤ b → FpOk X pins H1 b := fun b hle => I1.fpOk hle (I1.hok.fresh hle)
    cases p with
    | lst na qe rs =>
      cases es
      rename_i ws a
      cases ru
      obtain ⟨its, rv, p', hz⟩ := I1.list (.of qe)
      refine call_enumerate_list p'.isList fun h' he hit hsz hk => wpAny_pyIter_enum he ?_
      have I2 : Inv X pins σ H1 { s1 with heap := h' } := I1.kept (t' := s1.toks) hk
      refine ⟨s1.heap.objs.size + 1, [s1.heap.objs.size + 1, s1.heap.objs.size], _, _, H1, rfl, I2, turn_enum a (s1.heap.objs.size + 1) s1.heap.objs.size, ⟨⟨.none, he⟩, hit, Nat.succ_ne_self _⟩, fun b hb => ?_, q _ (jok_enumL na qe rs)⟩
      have e' : b = s1.heap.objs.size + 1 ∨ b = s1.heap.objs.size := by simpa using hb
      exact fin b (by rcases e' with z | z <;> rw [z] <;> first | exact Nat.le_add_right _ _ | exact Nat.le_refl _)
    | tup qi rs =>
      cases es
      rename_i ws a
      cases ru
      obtain ⟨its, rv, p', hz⟩ := I1.tuple qi.t
      have hal : a < s1.heap.objs.size := p'.lt
      refine enum1_begins (begins_tuple a its.toArray) (show s1.heap.IsTuple a its.toArray from p') fun h' he hit hsz hk => wpAny_pyIter_enum he ?_
      have I2 : Inv X pins σ H1 { s1 with heap := h' } := I1.kept (t' := s1.toks) hk
      refine ⟨s1.heap.objs.size + 1, [s1.heap.objs.size + 1, s1.heap.objs.size], _, _, H1, rfl, I2, turn_enumT a (s1.heap.objs.size + 1) s1.heap.objs.size, ⟨⟨.none, he⟩, ⟨_, hit, rfl, rfl⟩, Nat.succ_ne_self _, Nat.ne_of_gt (Nat.lt_succ_of_lt hal), Nat.ne_of_lt hal⟩, fun b hb => ?_, q _ (jok_enumT qi rs)⟩
      have e' : b = s1.heap.objs.size + 1 ∨ b = s1.heap.objs.size := by simpa using hb
      exact fin b (by rcases e' with z | z <;> rw [z] <;> first | exact Nat.le_add_right _ _ | exact Nat.le_refl _)
    | str z =>
      cases es
      obtain ⟨t, rfl⟩ := ru
      refine enum1_begins (begins_text z t) trivial fun h' he hit hsz hk => wpAny_pyIter_enum he ?_
      have I2 : Inv X pins σ H1 { s1 with heap := h' } := I1.kept (t' := s1.toks) hk
      refine ⟨s1.heap.objs.size + 1, [s1.heap.objs.size + 1, s1.heap.objs.size], _, _, H1, rfl, I2, turn_enumS z t (s1.heap.objs.size + 1) s1.heap.objs.size, ⟨⟨.none, he⟩, ⟨_, hit, rfl, rfl⟩, Nat.succ_ne_self _⟩, fun b hb => ?_, q _ jok_enumS⟩
      have e' : b = s1.heap.objs.size + 1 ∨ b = s1.heap.objs.size := by simpa using hb
      exact fin b (by rcases e' with z | z <;> rw [z] <;> first | exact Nat.le_add_right _ _ | exact Nat.le_refl _)
    | ref e2 =>
      rename_i n a
      obtain ⟨zs, _, e3⟩ := Option.map_eq_some_iff.mp (show (asL h (.ref n)).map (fun xs => (xs, some n)) = some (xs, none) from es)
      cases e3
    | _ => cases es
  · exact q1.elim
end
end Fx
end
section
set_option Elab.async false
set_option linter.all false
set_option maxRecDepth 100000
set_option maxHeartbeats 8000000
/-! Fx, part 5c: the expressions, by induction. -/
namespace Fx
open PySem L2 PySem.Spec PyProof.Rows
theorem and2 {a b : Bool} (h : (a && b) = true) : a = true ∧ b = true := by simpa using h
section
variable {X : Cx}
/-- isinstance by values -/
theorem kit_is (K : PySem.W.Frag) (a b : String) (r : Bool) (h : kitB a b = some r) : PySem.W.kitOne K (.type a) (.type b) = some r := h
theorem isV_of {K : PySem.W.Frag} {ρ : List Addr} {H : Hp} {h : PHeap} {x : PV} {v : V} {t : IsT} {b : Bool} (hr : HR K ρ H h) (p : Rep K ρ H x v) (e : isV t x = some b) :
    ∃ ty, TyX K H v ty ∧ PySem.W.kitOne K ty (.type (istName t)) = some b := by
  cases p with
  | non => cases e; exact ⟨_, .base .non, by cases t <;> exact kit_is K _ _ _ (by decide +kernel)⟩
  | bl c => cases e; exact ⟨_, .base (.bl _), by cases t <;> exact kit_is K _ _ _ (by decide +kernel)⟩
  | int c => cases e; exact ⟨_, .base (.int _), by cases t <;> exact kit_is K _ _ _ (by decide +kernel)⟩
  | str c => cases e; exact ⟨_, .base (.str _), by cases t <;> exact kit_is K _ _ _ (by decide +kernel)⟩
  | tup q r =>
    cases e
    rcases q with ⟨n, e⟩ | ⟨o, its, n, h1, h2, _⟩
    · exact ⟨_, .base (.tup e), by cases t <;> exact kit_is K _ _ _ (by decide +kernel)⟩
    · exact ⟨_, .kTuple h1 h2, by cases t <;> exact kit_is K _ _ _ (by decide +kernel)⟩
  | lst n q r => cases e; exact ⟨_, .base (.lst q), by cases t <;> exact kit_is K _ _ _ (by decide +kernel)⟩
  | scr q => cases e
  | ref q =>
    cases e
    rename_i i a
    have hl : i < h.length := by rw [← hr.len]; exact (List.getElem?_eq_some_iff.mp q).1
    have ob := hr.obj i h[i] a (List.getElem?_eq_getElem hl) q
    generalize h[i] = o at ob
    cases ob with
    | lst e2 _ => exact ⟨_, .base (.lst e2), by cases t <;> exact kit_is K _ _ _ (by decide +kernel)⟩
theorem ist_boot (t : IsT) : bootBuiltins (Str.ofString (istName t)) = some (.type (istName t)) := by
  cases t <;> decide +kernel
theorem ist_blt (t : IsT) : Str.ofString (istName t) ∈ bltNames := by
  cases t <;> decide +kernel
theorem ist_notD (t : IsT) : notD (Str.ofString (istName t)) = true := by
  cases t <;> decide +kernel
theorem bf_boot (f : BF) : bootBuiltins (Str.ofString (bfName f)) = some (bfVal f) := by
  cases f <;> decide +kernel
theorem bf_blt (f : BF) : Str.ofString (bfName f) ∈ bltNames := by
  cases f <;> decide +kernel

/-! ### methods by values -/
def rMt (K : PySem.W.Frag) (m : BM) : V → List V → Hp → VK → Prop := fun v vs H Q => ∃ ρ h x xs, HR K ρ H h ∧ Rep K ρ H x v ∧ Reps K ρ H xs vs ∧
  Post K (fun _ => Value.none) (fun _ _ _ _ => False) ρ H [] (bmV m h x xs) fun ρ' H' _ z => ∀ w, Rep K ρ' H' z w → Q w H'
theorem MtS.toR {id : String} {r : V → List V → Hp → VK → Prop} (h : MtS X id (fun _ => r)) : MtR X id r := h
theorem mOn1_of {f : PV → Res PV} {xs : List PV} {K : PySem.W.Frag} {cn : Nat → Value} {W : WX} {ρ : List Addr} {H : Hp} {τ : L2.St} {G : List Addr → Hp → PHeap → PV → Prop} (p : Post K cn W ρ H τ (mOn1 f xs) G) : ∃ x, xs = [x] ∧ Post K cn W ρ H τ (f x) G := by
  unfold mOn1 at p
  split at p
  · exact ⟨_, rfl, p⟩
  · exact p.elim
theorem mOn2_of {f : PV → PV → Res PV} {xs : List PV} {K : PySem.W.Frag} {cn : Nat → Value} {W : WX} {ρ : List Addr} {H : Hp} {τ : L2.St} {G : List Addr → Hp → PHeap → PV → Prop} (p : Post K cn W ρ H τ (mOn2 f xs) G) : ∃ x y, xs = [x, y] ∧ Post K cn W ρ H τ (f x y) G := by
  unfold mOn2 at p
  split at p
  · exact ⟨_, _, rfl, p⟩
  · exact p.elim
theorem mt_bm (hc : X.calm = true) : ∀ m, MtR X (bmName m).2.2 (rMt X.K m)
  | .index => by
    intro pins s σ H x xs v us Q I r1 r2 ⟨ρ, h, px, pxs, hr, p, ps, q0⟩
    obtain ⟨y, rfl, q⟩ := mOn1_of q0
    obtain ⟨u, rfl, py⟩ := ps.one
    unfold indexV at q
    split at q
    · rename_i a b
      obtain ⟨z, e, w⟩ := Post.lift q
      obtain ⟨kk, e9, rfl⟩ := Option.map_eq_some_iff.mp e
      cases p; cases py
      refine mt_indexX (W := fun _ _ _ _ => False) hc (takes0) pins s σ H _ _ _ _ Q I r1 r2 ⟨a, b, rfl, rfl, fun k2 e2 => ?_, fun e2 => by rw [e9] at e2; cases e2⟩
      rw [e9] at e2; cases e2
      exact w ρ H hr.step hr _ (.int _)
    · exact q.elim
  | .rjust => by
    intro pins s σ H x xs v us Q I r1 r2 ⟨ρ, h, px, pxs, hr, p, ps, q0⟩
    obtain ⟨y, y2, rfl, q⟩ := mOn2_of q0
    obtain ⟨u, u2, rfl, py, py2⟩ := ps.two
    unfold rjustV at q
    split at q
    · rename_i a i f
      split at q
      · rename_i hcnd
        cases p; cases py; cases py2
        obtain ⟨t, rfl⟩ := r1
        obtain ⟨w1, w2, rfl, q1, q2⟩ := vals2 r2
        obtain ⟨t1, rfl⟩ := q1
        obtain ⟨t2, rfl⟩ := q2
        exact rjust_fill hcnd.1 hcnd.2 fun t' k => ⟨.str _, H, I.tok k, ⟨_, rfl⟩, q ρ H hr.step hr _ (.str _)⟩
      · exact q.elim
    · exact q.elim
  | .find => by
    intro pins s σ H x xs v us Q I r1 r2 ⟨ρ, h, px, pxs, hr, p, ps, q0⟩
    obtain ⟨y, rfl, q⟩ := mOn1_of q0
    obtain ⟨u, rfl, py⟩ := ps.one
    unfold findV at q
    split at q
    · cases p; cases py
      exact mt_find pins s σ H _ _ _ _ Q I r1 r2 ⟨_, _, rfl, rfl, q ρ H hr.step hr _ (.int _)⟩
    · exact q.elim
  | .find3 => by
    intro pins s σ H x xs v us Q I r1 r2 ⟨ρ, h, px, pxs, hr, p, ps, q0⟩
    obtain ⟨y, y2, rfl, q⟩ := mOn2_of q0
    obtain ⟨u, u2, rfl, py, py2⟩ := ps.two
    unfold find3V at q
    split at q
    · cases p; cases py; cases py2
      exact mt_find3 pins s σ H _ _ _ _ Q I r1 r2 ⟨_, _, _, rfl, rfl, q ρ H hr.step hr _ (.int _)⟩
    · exact q.elim
  | .join => by
    intro pins s σ H x xs v us Q I r1 r2 ⟨ρ, h, px, pxs, hr, p, ps, q0⟩
    obtain ⟨y, rfl, q⟩ := mOn1_of q0
    obtain ⟨u, rfl, py⟩ := ps.one
    unfold joinV at q
    split at q
    · rename_i a
      split at q
      · rename_i ys e
        obtain ⟨zs, e1, e2⟩ := Option.bind_eq_some_iff.mp e
        split at q
        · rename_i hl
          cases p
          obtain ⟨b, vs, rfl, hb, rs⟩ := asL_of hr py e1
          have e4 := allStr_of rs e2
          subst e4
          exact mt_join pins s σ H _ _ _ _ Q I r1 r2 ⟨a, b, ys, rfl, rfl, .inl (.of hb), hl, q ρ H hr.step hr _ (.str _)⟩
        · exact q.elim
      · exact q.elim
    · exact q.elim
  | .append => by
    intro pins s σ H x xs v us Q I r1 r2 ⟨ρ, h, px, pxs, hr, p, ps, q0⟩
    obtain ⟨y, rfl, q⟩ := mOn1_of q0
    obtain ⟨u, rfl, py⟩ := ps.one
    unfold appendV at q
    split at q
    · rename_i n
      split at q
      · rename_i ys e
        split at q
        · rename_i hl
          cases p with
          | ref e2 =>
            rename_i a
            obtain ⟨vs, h1, h2⟩ := hr.lst e e2
            have ma : a ∈ ρ := List.mem_iff_getElem?.mpr ⟨n, e2⟩
            refine mt_append pins s σ H _ _ _ _ Q I r1 r2 ⟨a, vs, u, rfl, rfl, h1, by rw [← h2.length]; exact hl, ?_⟩
            exact q ρ _ (Step.set hr.dom ma) (hr.set e2 (h2.append (.cons py .nil))) _ .non
        · exact q.elim
      · exact q.elim
    · exact q.elim
theorem slot_bm (m : BM) : PlainAttrs (bmName m).2.1 ∧ Slot (bmName m).2.1 (bmName m).1 (bmName m).2.2 ∧ typeOf (.builtin (bmName m).2.2) = pure (.type "method_descriptor") := by
  cases m
  · exact ⟨F.plainAttrs_str, F.slot_str_index, F.type_str_index⟩
  · exact ⟨F.plainAttrs_str, F.slot_str_rjust, F.type_str_rjust⟩
  · exact ⟨F.plainAttrs_str, F.slot_str_find, F.type_str_find⟩
  · exact ⟨F.plainAttrs_str, F.slot_str_find, F.type_str_find⟩
  · exact ⟨F.plainAttrs_str, F.slot_str_join, F.type_str_join⟩
  · exact ⟨F.plainAttrs_list, F.slot_list_append, F.type_list_append⟩
theorem rcv_of {K : PySem.W.Frag} {ρ : List Addr} {H : Hp} {h : PHeap} {m : BM} {x : PV} {v : V} (hr : HR K ρ H h) (p : Rep K ρ H x v) (e : rcv m h x = true) : tyV K (bmName m).2.1 v H := by
  cases m with
  | append =>
    cases p with
    | ref q =>
      rename_i n a
      have e : (match h[n]? with | some (.lst _) => true | none => false) = true := e
      split at e
      · rename_i ys hy
        obtain ⟨vs, h1, _⟩ := hr.lst hy q
        exact .inl ⟨rfl, vs, .of h1⟩
      · cases e
    | _ => cases e
  | _ =>
    cases p with
    | str z => rfl
    | _ => cases e
end
end Fx
end
section
set_option Elab.async false
set_option linter.all false
set_option maxRecDepth 100000
set_option maxHeartbeats 8000000
/-! Fx, part 5d: the expressions, by induction. -/
namespace Fx
open PySem L2 PySem.Spec PyProof.Rows
/-- the context of a comprehension's block -/
theorem Good.blk {cfg : Cfg} {X : Cx} {c : MC} {k : Nat} {fa ea : Nat → Addr} {W : WX} (G : Good cfg X c k fa ea W) (scope : Scope) (s : Shared) (H : Hp) (C : Addr) (cl : List (Str × Addr)) (fp : List Addr) :
    Good cfg (X.blk s H scope (compEnvC scope cl C X.env) fp) ⟨c.N, relS scope c.sc, fun x => scope.names.lookup x == some .cell, c.calm⟩ k fa ea (fun _ _ _ _ => False) where
  N := G.N
  sc := by
    show relabel scope X.env = _
    rw [← G.sc]
    rfl
  nd := G.nd
  calm := G.calm
  fn := fun x h => h
  tk := takes0
  room := G.room
  hu := G.hu
  facts := G.facts
theorem wipe_set {σ : L2.St} {v : V} : ∀ {vs : List Nat} {i : Nat}, i ∈ vs → L2.wipe (σ.set i (some v)) vs = L2.wipe σ vs
  | [], i, h => by cases h
  | w :: vs, i, h => by
    show (L2.wipe (σ.set i (some v)) vs).set w none = (L2.wipe σ vs).set w none
    by_cases hi : i ∈ vs
    · rw [wipe_set hi]
    · have e : i = w := by
        rcases List.mem_cons.mp h with e | e
        · exact e
        · exact absurd e hi
      subst e
      have comm : ∀ ws : List Nat, i ∉ ws → (L2.wipe (σ.set i (some v)) ws) = (L2.wipe σ ws).set i (some v) := by
        intro ws
        induction ws with
        | nil => intro _; rfl
        | cons a r ih =>
          intro hn
          show (L2.wipe (σ.set i (some v)) r).set a none = ((L2.wipe σ r).set a none).set i (some v)
          rw [ih (fun z => hn (List.mem_cons_of_mem _ z)), List.set_comm _ _ (fun z => hn (by rw [z]; exact List.mem_cons_self))]
      rw [comm vs hi, List.set_set]
theorem wipe_idem {σ : L2.St} : ∀ (vs : List Nat), L2.wipe (L2.wipe σ vs) vs = L2.wipe σ vs := by
  intro vs
  apply List.ext_getElem?
  intro i
  have len : ∀ ws : List Nat, ∀ τ : L2.St, (L2.wipe τ ws).length = τ.length := fun ws τ => L2.wipe_length τ ws
  have nn : ∀ (ws : List Nat) (τ : L2.St), i ∈ ws → i < τ.length → (L2.wipe τ ws)[i]? = some none := by
    intro ws
    induction ws with
    | nil => intro τ h; cases h
    | cons a r ih =>
      intro τ h hl
      show ((L2.wipe τ r).set a none)[i]? = some none
      by_cases e : a = i
      · subst e
        rw [List.getElem?_set_self (by rw [len]; exact hl)]
      · rw [List.getElem?_set_ne e]
        rcases List.mem_cons.mp h with h | h
        · exact absurd h.symm e
        · exact ih τ h hl
  by_cases h : i ∈ vs
  · by_cases hl : i < σ.length
    · rw [nn vs _ h (by rw [len]; exact hl), nn vs _ h hl]
    · rw [List.getElem?_eq_none (by rw [len, len]; omega), List.getElem?_eq_none (by rw [len]; omega)]
  · rw [L2.wipe_out h]
/-! ### targets -/
section
variable {cfg : Cfg} {X : Cx} {c : MC} {k : Nat} {fa ea : Nat → Addr} {W : WX}
def gAll : List Nat → TGs
  | [] => gNil
  | i :: r => gCons (gName i) (gAll r)
theorem pgs_names (G : Good cfg X c k fa ea W) : ∀ {is : List Nat} {es : List Expr}, mNames c is es = true → PGs X es (gAll is)
  | [], [], _ => pgs_nil
  | [], _ :: _, h => by simp [mNames] at h
  | i :: is, [], h => by simp [mNames] at h
  | i :: is, e :: es, h => by
    cases e with
    | Name x pos =>
      simp only [mNames, Bool.and_eq_true, decide_eq_true_eq] at h
      obtain ⟨h1, h2⟩ := G.sto h.1.2
      exact pgs_cons (pg_name G.nd (by rw [G.N]; exact h.1.1) h1 h2) (pgs_names G h.2)
    | _ => simp [mNames] at h
theorem names_each (G : Good cfg X c k fa ea W) : ∀ {is : List Nat} {es : List Expr}, mNames c is es = true → (assignEach es X.env).length = is.length ∧ (assignEach es X.env).findIdx? (·.1) = none
  | [], [], _ => ⟨rfl, rfl⟩
  | [], _ :: _, h => by simp [mNames] at h
  | i :: is, [], h => by simp [mNames] at h
  | i :: is, e :: es, h => by
    cases e with
    | Name x pos =>
      simp only [mNames, Bool.and_eq_true] at h
      obtain ⟨h1, h2⟩ := names_each G h.2
      refine ⟨?_, ?_⟩
      · show (_ :: assignEach es X.env).length = _
        rw [List.length_cons, h1]; rfl
      · show List.findIdx? _ ((false, _) :: assignEach es X.env) = none
        rw [List.findIdx?_cons]
        simp [h2]
    | _ => simp [mNames] at h
def gT (K : PySem.W.Frag) : ITg → TG
  | .name i => gName i
  | .tup is => gTup K is.length (gAll is)
theorem pg_T (G : Good cfg X c k fa ea W) {t : ITg} {e : Expr} (h : mT c t e = true) : PG X e (gT X.K t) := by
  cases t with
  | name i =>
    unfold mT at h
    split at h
    · rename_i i' x pos heq
      cases heq
      simp only [Bool.and_eq_true, decide_eq_true_eq] at h
      obtain ⟨h1, h2⟩ := G.sto h.2
      exact pg_name G.nd (by rw [G.N]; exact h.1) h1 h2
    · rename_i heq; cases heq
    · cases h
  | tup is =>
    unfold mT at h
    split at h
    · rename_i heq; cases heq
    · rename_i is' es kk pos heq
      cases heq
      simp only [Bool.and_eq_true] at h
      obtain ⟨h1, h2⟩ := names_each G h.2
      exact pg_tup (G.calm h.1) (pgs_names G h.2) h1 h2
    · cases h
end
section
variable {K : PySem.W.Frag} {ρ : List Addr} {H : Hp}
theorem setAll_of : ∀ {is : List Nat} {xs : List PV} {vs : List V} {σ σ' : PSt} {τ : L2.St} {Q : L2.St → Hp → Prop}, setAll is xs σ = some σ' → Reps K ρ H xs vs → SR K ρ H σ τ → (∀ τ', SR K ρ H σ' τ' → Q τ' H) → gAll is vs τ H Q
  | [], [], _, σ, σ', τ, Q, e, .nil, s, q => by
    simp [setAll] at e; subst e
    exact ⟨rfl, q τ s⟩
  | [], _ :: _, _, _, _, _, _, e, _, _, _ => by simp [setAll] at e
  | _ :: _, [], _, _, _, _, _, e, _, _, _ => by simp [setAll] at e
  | i :: is, x :: xs, _, σ, σ', τ, Q, e, .cons r t, s, q => by
    simp only [setAll] at e
    exact ⟨_, _, rfl, setAll_of e t (s.set r i) q⟩
theorem setAll_len : ∀ {is : List Nat} {xs : List PV} {σ σ' : PSt}, setAll is xs σ = some σ' → xs.length = is.length
  | [], [], _, _, _ => rfl
  | [], _ :: _, _, _, e => by simp [setAll] at e
  | _ :: _, [], _, _, e => by simp [setAll] at e
  | i :: is, x :: xs, _, _, e => by
    simp only [setAll] at e
    simp [setAll_len e]
theorem bindT_of {t : ITg} {x : PV} {v : V} {σ σ' : PSt} {τ : L2.St} {Q : L2.St → Hp → Prop} (e : bindT t x σ = some σ') (r : Rep K ρ H x v) (s : SR K ρ H σ τ) (q : ∀ τ', SR K ρ H σ' τ' → Q τ' H) : gT K t v τ H Q := by
  cases t with
  | name i =>
    simp [bindT] at e; subst e
    exact q _ (s.set r i)
  | tup is =>
    cases r with
    | tup qi rs =>
      have e : setAll is _ σ = some σ' := e
      exact ⟨_, _, rfl, qi.t, by rw [← rs.length]; exact setAll_len e, setAll_of e rs s q⟩
    | _ => cases e
/-- the target's names are the block's own -/
theorem setAll_wipe : ∀ {is : List Nat} {vs : List V} {own : List Nat} {τ τ0 : L2.St} {Q : L2.St → Hp → Prop}, (∀ i ∈ is, i ∈ own) → L2.wipe τ own = τ0 → gAll is vs τ H Q → gAll is vs τ H fun τ' H' => L2.wipe τ' own = τ0 ∧ Q τ' H'
  | [], _, own, τ, τ0, Q, _, e, ⟨h1, h2⟩ => ⟨h1, e, h2⟩
  | i :: is, vs, own, τ, τ0, Q, hi, e, ⟨v, r, h1, h2⟩ => ⟨v, r, h1, setAll_wipe (τ := τ.set i (some v)) (fun j hj => hi j (List.mem_cons_of_mem _ hj)) (by rw [wipe_set (hi i List.mem_cons_self)]; exact e) h2⟩
theorem bindT_wipe {t : ITg} {v : V} {own : List (Str × Nat)} {τ τ0 : L2.St} {Q : L2.St → Hp → Prop} (ho : tgOwn own t = true) (e : L2.wipe τ (own.map (·.2)) = τ0) (h : gT K t v τ H Q) : gT K t v τ H fun τ' H' => L2.wipe τ' (own.map (·.2)) = τ0 ∧ Q τ' H' := by
  cases t with
  | name i =>
    have : i ∈ own.map (·.2) := by simpa [tgOwn, own?] using ho
    exact ⟨by rw [wipe_set this]; exact e, h⟩
  | tup is =>
    obtain ⟨a, xs, h1, h2, h3, h4⟩ := h
    refine ⟨a, xs, h1, h2, h3, setAll_wipe (fun i hi => ?_) e h4⟩
    have := List.all_eq_true.mp (show is.all (own? own) = true from ho) i hi
    simpa [own?] using this
end
end Fx
end
section
set_option Elab.async false
set_option linter.all false
set_option maxRecDepth 100000
set_option maxHeartbeats 16000000
/-! Fx, part 5e: the expressions, by induction. -/
namespace Fx
open PySem L2 PySem.Spec PyProof.Rows
section
variable {K : PySem.W.Frag} {cn : Nat → Value} {W : WX}
/-- one reading after another -/
theorem rdE_bind {m : PSt → PHeap → Res PV} {f : PSt → PV → PHeap → Res PV} {τ : L2.St} {H : Hp} {Q : VK}
    (h : RdE K cn W (fun σ h => (m σ h).bind (f σ)) τ H Q) :
    RdE K cn W m τ H fun v H1 => ∃ ρ σ h1 x, SR K ρ H1 σ τ ∧ HR K ρ H1 h1 ∧ Rep K ρ H1 x v ∧ Post K cn W ρ H1 τ (f σ x h1) fun ρ' H' _ x => ∀ v, Rep K ρ' H' x v → Q v H' := by
  obtain ⟨ρ, σ, h, sr, hr, p⟩ := h
  refine ⟨ρ, σ, h, sr, hr, (Post.bind p).imp ?_⟩
  intro ρ1 H1 h1 x _ _ ⟨st, hr1, p1⟩ v rv
  exact ⟨ρ1, σ, h1, x, sr.mono st, hr1, rv, p1⟩
end
theorem Post.tau0 {K : PySem.W.Frag} {cn : Nat → Value} {ρ : List Addr} {H : Hp} {τ τ' : L2.St} {α : Type} {r : Res α} {G : List Addr → Hp → PHeap → α → Prop} (p : Post K cn (fun _ _ _ _ => False) ρ H τ r G) : Post K cn (fun _ _ _ _ => False) ρ H τ' r G := by
  cases r <;> exact p
/-- the comprehension's loop -/
theorem compL_of {K : PySem.W.Frag} {cn : Nat → Value} {J : It} {items : List PV} {ok : PHeap → Bool} {tg : ITg} {own : List (Str × Nat)} {tst : PSt → PHeap → Res Bool} {elt : PSt → PHeap → Res PV} {σ : PSt} {τ : L2.St}
    {ρ1 : List Addr} {H1 : Hp} {D : Addr} {Q : VK} {h1 : PHeap}
    (jo : JOk K ρ1 H1 J items ok) (ho : tgOwn own tg = true) (nD : H1 D = none) (sr : SR K ρ1 H1 σ τ) (hr : HR K ρ1 H1 h1)
    (p : Post K cn (fun _ _ _ _ => False) (ρ1 ++ [D]) (upd H1 D (.lst [])) τ (compL (fun x => bindT tg x (wipeP σ (own.map (·.2)))) tst elt ok h1.length items (h1 ++ [.lst []])) fun _ H' _ _ => Q (.ref D) H') :
    ∃ Wf : Nat → Nat → Hp → Prop, (∃ m, Wf 0 m (upd H1 D (.lst []))) ∧ ∀ i m H, Wf i m H →
      (J.stop i H ∧ Q (.ref D) H) ∨ (J.go i H ∧ ∃ Nx : Hp → Prop, (∀ H', Nx H' → ∃ m', m' < m ∧ Wf (i + 1) m' H') ∧ ∀ x H', J.yld i H x H' → gT K tg x (L2.wipe τ (own.map (·.2))) H' fun σ2 H2 => L2.wipe σ2 (own.map (·.2)) = L2.wipe τ (own.map (·.2)) ∧ RdT K cn (fun _ _ _ _ => False) tst σ2 H2 fun b H3 =>
        if b = true then RdE K cn (fun _ _ _ _ => False) elt σ2 H3 fun y H4 => ∃ acc, H4 D = some (.lst acc) ∧ acc.length < sizeLine ∧ Nx (upd H4 D (.lst (acc ++ [y]))) else Nx H3) := by
  let G : List Addr → Hp → PHeap → Unit → Prop := fun _ H' _ _ => Q (.ref D) H'
  let cl : List PV → PHeap → Res Unit := fun xs h => compL (fun x => bindT tg x (wipeP σ (own.map (·.2)))) tst elt ok h1.length xs h
  let Wf : Nat → Nat → Hp → Prop := fun i m H => m = items.length - i ∧ i ≤ items.length ∧ ∃ ρ' h', Step ρ1 H1 ρ' H ∧ HR K ρ' H h' ∧ ρ'[h1.length]? = some D ∧ Post K cn (fun _ _ _ _ => False) ρ' H τ (cl (items.drop i) h') G
  refine ⟨Wf, ⟨items.length, by simp, Nat.zero_le _, ρ1 ++ [D], h1 ++ [.lst []], .own hr.dom nD, hr.alloc nD .nil, by rw [List.getElem?_append_right (by rw [hr.len]; exact Nat.le_refl _), hr.len]; simp, by rw [List.drop_zero]; exact p⟩, ?_⟩
  rintro i m H ⟨hm, hi, ρ', h', st, hr', eD, q⟩
  have okk : ok h' = true := by
    cases hd : items.drop i with
    | nil =>
      have q : Post K cn (fun _ _ _ _ => False) ρ' H τ (cl (items.drop i) h') G := q
      rw [hd] at q
      by_cases ok1 : ok h' = true
      · exact ok1
      · have : cl [] h' = .stuck := by show (if ok h' = true then _ else _) = _; rw [if_neg ok1]
        rw [this] at q; exact q.elim
    | cons x r =>
      have q : Post K cn (fun _ _ _ _ => False) ρ' H τ (cl (items.drop i) h') G := q
      rw [hd] at q
      by_cases ok1 : ok h' = true
      · exact ok1
      · have : cl (x :: r) h' = .stuck := by show (if ok h' = true then _ else _) = _; rw [if_neg ok1]
        rw [this] at q; exact q.elim
  obtain ⟨j1, j2⟩ := jo ρ' H h' st hr' okk
  by_cases hlt : i < items.length
  · right
    have hd : items.drop i = items[i] :: items.drop (i + 1) := List.drop_eq_getElem_cons hlt
    obtain ⟨jg, jy⟩ := j2 i items[i] (List.getElem?_eq_getElem hlt)
    refine ⟨jg, Wf (i + 1) (m - 1), fun H' w => ⟨m - 1, by omega, w⟩, ?_⟩
    intro v H2 hy
    obtain ⟨sm, rv⟩ := jy v H2 hy
    have s2 : Step ρ' H ρ' H2 := .same hr'.dom sm
    have hr2 := hr'.same sm
    rw [hd] at q
    have q : Post K cn (fun _ _ _ _ => False) ρ' H τ (if ok h' = true then (match bindT tg items[i] (wipeP σ (own.map (·.2))) with
      | none => .stuck
      | some σ1 => (tst σ1 h').bind fun b h1' => match b with
        | true => (elt σ1 h1').bind fun y h2 => (match h2[h1.length]? with
          | some (.lst acc) => if acc.length < sizeLine then cl (items.drop (i + 1)) (h2.set h1.length (.lst (acc ++ [y]))) else .stuck
          | none => .stuck)
        | false => cl (items.drop (i + 1)) h1') else .stuck) G := q
    rw [if_pos okk] at q
    cases eb : bindT tg items[i] (wipeP σ (own.map (·.2))) with
    | none => rw [eb] at q; exact q.elim
    | some σ1 =>
      rw [eb] at q
      have sr2 : SR K ρ' H2 (wipeP σ (own.map (·.2))) (L2.wipe τ (own.map (·.2))) := ((sr.mono st).mono s2).wipe _
      refine bindT_wipe ho (wipe_idem _) (bindT_of eb rv sr2 fun τ' sr' => ?_)
      refine ⟨ρ', σ1, h', sr', hr2, (Post.bind (Post.tau0 (Post.mono q s2))).imp ?_⟩
      intro ρ3 H3 h3 b _ _ ⟨st3, hr3, q3⟩
      cases b with
      | true =>
        refine iteT ?_
        refine ⟨ρ3, σ1, h3, sr'.mono st3, hr3, (Post.bind q3).imp ?_⟩
        intro ρ4 H4 h4 y _ _ ⟨st4, hr4, q4⟩ yv ry
        have eD4 : ρ4[h1.length]? = some D := st4.get (st3.get eD)
        split at q4
        · rename_i acc ea
          obtain ⟨vs, hv, rvs⟩ := hr4.lst ea eD4
          split at q4
          · rename_i hlen
            have mD : D ∈ ρ4 := List.mem_iff_getElem?.mpr ⟨_, eD4⟩
            refine ⟨vs, hv, by rw [← rvs.length]; exact hlen, by omega, by omega, ρ4, h4.set h1.length (.lst (acc ++ [y])), ?_, hr4.set eD4 (rvs.append (.cons ry .nil)), eD4, ?_⟩
            · exact (((st.trans s2).trans st3).trans st4).trans (.set hr4.dom mD)
            · exact Post.tau0 (Post.mono q4 (.set hr4.dom mD))
          · exact q4.elim
        · exact q4.elim
      | false =>
        refine iteF ?_
        exact ⟨by omega, by omega, ρ3, h3, (st.trans s2).trans st3, hr3, st3.get eD, Post.tau0 q3⟩
  · left
    have ei : i = items.length := by omega
    have hd : items.drop i = [] := List.drop_eq_nil_of_le (by omega)
    rw [hd] at q
    have q : Post K cn (fun _ _ _ _ => False) ρ' H τ (if ok h' = true then .ok () h' else .stuck) G := q
    rw [if_pos okk] at q
    exact ⟨by rw [ei]; exact j1, q ρ' H hr'.step hr'⟩
mutual
theorem old_of1 {K : PySem.W.Frag} {ρ : List Addr} {D : Addr} {H0 H : Hp} : ∀ {x : PV} {v0 v : V}, Rep K ρ H0 x v0 → Rep K (ρ ++ [D]) H x v → Rep K ρ H x v
  | _, _, _, _, .non => .non
  | _, _, _, _, .bl b => .bl b
  | _, _, _, _, .int i => .int i
  | _, _, _, _, .str x => .str x
  | .tup xs, _, _, .tup _ r0, .tup q r => .tup (by
      rcases q with ⟨n, e⟩ | q
      · exact .inl ⟨fun z => n (List.mem_append_left _ z), e⟩
      · exact .inr q) (old_of r0 r)
  | .lst xs, _, _, .lst _ _ r0, .lst n q r => .lst (fun z => n (List.mem_append_left _ z)) q (old_of r0 r)
  | _, _, _, _, .scr q => .scr (by
      rcases q with ⟨n, e⟩ | q
      · exact .inl ⟨fun z => n (List.mem_append_left _ z), e⟩
      · exact .inr q)
  | .ref i, _, _, .ref q0, .ref q => .ref (by
      rw [List.getElem?_append_left (List.getElem?_eq_some_iff.mp q0).1] at q
      exact q)
theorem old_of {K : PySem.W.Frag} {ρ : List Addr} {D : Addr} {H0 H : Hp} : ∀ {x : List PV} {v0 v : List V}, Reps K ρ H0 x v0 → Reps K (ρ ++ [D]) H x v → Reps K ρ H x v
  | _, _, _, _, .nil => .nil
  | x :: xs, _, _, .cons r0 t0, .cons r t => .cons (old_of1 r0 r) (old_of t0 t)
end
mutual
theorem below_of {K : PySem.W.Frag} {ρ : List Addr} {D : Addr} {H : Hp} {n : Nat} (hn : ρ.length = n) : ∀ {x : PV} {v : V}, PV.under n x = true → Rep K (ρ ++ [D]) H x v → Rep K ρ H x v
  | _, _, _, .non => .non
  | _, _, _, .bl b => .bl b
  | _, _, _, .int i => .int i
  | _, _, _, .str x => .str x
  | .tup xs, _, e, .tup q r => .tup (by
      rcases q with ⟨n, e⟩ | q
      · exact .inl ⟨fun z => n (List.mem_append_left _ z), e⟩
      · exact .inr q) (belows_of hn (by simpa [PV.under] using e) r)
  | .lst xs, _, e, .lst n q r => .lst (fun z => n (List.mem_append_left _ z)) q (belows_of hn (by simpa [PV.under] using e) r)
  | _, _, _, .scr q => .scr (by
      rcases q with ⟨n, e⟩ | q
      · exact .inl ⟨fun z => n (List.mem_append_left _ z), e⟩
      · exact .inr q)
  | .ref i, _, e, .ref q => .ref (by
      have hl : i < n := by simpa [PV.under] using e
      rw [List.getElem?_append_left (by rw [hn]; exact hl)] at q
      exact q)
theorem belows_of {K : PySem.W.Frag} {ρ : List Addr} {D : Addr} {H : Hp} {n : Nat} (hn : ρ.length = n) : ∀ {x : List PV} {v : List V}, PV.unders n x = true → Reps K (ρ ++ [D]) H x v → Reps K ρ H x v
  | _, _, _, .nil => .nil
  | x :: xs, _, e, .cons r t => by
    simp only [PV.unders, Bool.and_eq_true] at e
    exact .cons (below_of hn e.1 r) (belows_of hn e.2 t)
end
theorem Post.retau {K : PySem.W.Frag} {cn : Nat → Value} {W : WX} {ρ : List Addr} {H : Hp} {τ τ' : L2.St} {α : Type} {r : Res α} {G : List Addr → Hp → PHeap → α → Prop} (p : Post K cn W ρ H τ r G) : Post K cn (fun cls d _ H' => W cls d τ H') ρ H τ' r G := by
  cases r <;> exact p
theorem Post.noexc {K : PySem.W.Frag} {cn cn' : Nat → Value} {W W' : WX} {ρ : List Addr} {H : Hp} {τ τ' : L2.St} {α : Type} {r : Res α} {G : List Addr → Hp → PHeap → α → Prop} (n : ∀ c h, r ≠ .exc c h) (p : Post K cn W ρ H τ r G) : Post K cn' W' ρ H τ' r G := by
  cases r with
  | ok _ _ => exact p
  | exc c h => exact absurd rfl (n c h)
  | stuck => exact p
theorem lift_noexc {α : Type} {o : Option α} {h : PHeap} {c : Nat} {h' : PHeap} : lift o h ≠ .exc c h' := by
  cases o <;> intro e <;> cases e
theorem bm_noexc {m : BM} {h : PHeap} {x : PV} {vs : List PV} {c : Nat} {h' : PHeap} : bmV m h x vs ≠ .exc c h' := by
  intro e
  cases m <;> simp only [bmV, mOn1, mOn2] at e <;> split at e <;> (try cases e) <;> (first | unfold indexV at e | unfold rjustV at e | unfold findV at e | unfold find3V at e | unfold joinV at e | unfold appendV at e) <;> split at e <;> (try cases e) <;> (try (exact lift_noexc e)) <;> split at e <;> (try cases e) <;> split at e <;> cases e
theorem run_len {cfg : Cfg} {k f : Nat} {F : FnI} {xs : List PV} {h : PHeap} {K : PySem.W.Frag} {cn : Nat → Value} {W : WX} {ρ : List Addr} {H : Hp} {τ : L2.St} {G : List Addr → Hp → PHeap → PV → Prop} (e : cfg.fns f = some F) (p : Post K cn W ρ H τ (run cfg k f xs h) G) : xs.length = F.params.length := by
  cases k with
  | zero => exact p.elim
  | succ k =>
    unfold run at p
    rw [e] at p
    dsimp only at p
    split at p
    · assumption
    · exact p.elim
def ieLen : IEs → Nat
  | .nil => 0
  | .cons _ r => ieLen r + 1
theorem evEs_len {cfg : Cfg} {call : Nat → List PV → PHeap → Res PV} : ∀ {as : IEs} {σ : PSt} {h : PHeap} {xs : List PV} {h' : PHeap}, evEs cfg call as σ h = .ok xs h' → xs.length = ieLen as
  | .nil, _, _, _, _, e => by unfold evEs at e; cases e; rfl
  | .cons a r, _, _, _, _, e => by
    unfold evEs at e
    obtain ⟨y, h1, _, e⟩ := bind_ok_of e
    obtain ⟨ys, h2, e2, e⟩ := bind_ok_of e
    cases e
    simp [ieLen, evEs_len e2]
theorem mEs_len {cfg : Cfg} {c : MC} : ∀ {as : IEs} {es : List Expr}, mEs cfg c as es = true → es.length = ieLen as
  | .nil, [], _ => rfl
  | .nil, _ :: _, h => by simp [mEs] at h
  | .cons _ _, [], h => by simp [mEs] at h
  | .cons a r, e :: es, h => by
    unfold mEs at h
    simp [ieLen, mEs_len (and2 h).2]
theorem plain_of {e : Expr} (h : notSlice e = true) : PlainIx e := by
  intro o i
  cases e <;> first | rfl | (cases h)
theorem star_all {cfg : Cfg} {c : MC} {env : Env} {pos : Pos} : ∀ {as : IEs} {es : List Expr}, mEs cfg c as es = true → (backTo pos (starEach es env)).all (fun x => !x.1) = true
  | .nil, [], _ => rfl
  | .nil, _ :: _, h => by simp [mEs] at h
  | .cons _ _, [], h => by simp [mEs] at h
  | .cons a r, e :: es, h => by
    unfold mEs at h
    obtain ⟨h, h3⟩ := and2 h
    rw [starE (and2 h).1]
    show ((false, _) :: backTo pos (starEach es env)).all (fun x => !x.1) = true
    rw [List.all_cons, star_all h3]
    rfl
theorem few_ok {cfg : Cfg} {c : MC} {env : Env} {cpos : Pos} {as : IEs} {es : List Expr} (h : mEs cfg c as es = true) (hl : es.length < 20) :
    ((backTo cpos (starEach es env)).all (fun x => !x.1) && (backToKw cpos (keywordEach [] env)).all (fun x => x.1.isSome) && decide (es.length + ([] : List Keyword).length + (if ([] : List Keyword).isEmpty then 0 else 1) < 30)) = true := by
  rw [star_all h]
  show (true && true && decide (es.length + 0 + 0 < 30)) = true
  simp; omega
theorem pe_callS0 {X : Cx} {CX : CXT} {k : Nat} {f : Addr} {fd : FuncData} {ps : List Str} {sp : Sp} {E : L2.St → XK} {x : Str} {p pos : Pos} (F : FnOk X.prog X.w X.K X.mg X.base CX k f fd ps sp) (hr : Room k X.A) (hg : Gl X x) (hm : X.mg x = some (.ref f)) (hk : PySem.W.keepIn X.K (.ref f) = true) (hb : Binds X.K fd ps []) (hx : ∀ σ, PassesAt CX X σ (E σ))
    (hdb : (x == ("__debug__" : Str)) = false) : PE X (.Call (.Name x p) [] [] pos) (tCallS sp E tNil) := by
  refine ⟨fun pins s σ H Q I h => ?_⟩
  refine wpAny_Call_Name_kw (ld_glob I hg hm ?_ hdb)
  exact PySem.W.callWith_K0 I.kIn hk (run_fnS (us := []) F hr hb (hx σ) I .nil h)
theorem lc_of {cfg : Cfg} {k : Nat} {K : PySem.W.Frag} {cn : Nat → Value} {W : WX} {elt : IE} {tg : ITg} {it : II} {ifs : IEs} {own : List (Str × Nat)} (ho : tgOwn own tg = true) {τ : L2.St} {H : Hp} {Q : VK}
    (q : RdE K cn W (evE cfg (run cfg k) (.comp elt tg it ifs own)) τ H Q) :
    tLc (RdI K cn W (evI cfg (run cfg k) it)) (gT K tg) (RdT K cn (fun _ _ _ _ => False) (evT cfg (run cfg k) ifs)) (RdE K cn (fun _ _ _ _ => False) (evE cfg (run cfg k) elt)) (own.map (·.2)) τ H Q := by
  obtain ⟨ρ, σ, h, sr, hr, p⟩ := q
  unfold evE at p
  refine ⟨ρ, σ, h, sr, hr, (Post.bind p).imp ?_⟩
  intro ρ1 H1 h1 w _ _ ⟨st, hr1, p1⟩ J jo D hD
  have np : D ∉ ρ1 := fun m => by obtain ⟨o, e⟩ := hr1.dom D m; rw [hD] at e; cases e
  have so := Step.own (o := HO.lst []) hr1.dom hD
  have ha := hr1.alloc hD (xs := []) (vs := []) .nil
  refine compL_of jo ho hD (sr.mono st) hr1 ?_
  have p2 := Post.bind (Post.mono p1 so)
  cases e : compL (fun x => bindT tg x (wipeP σ (own.map (·.2)))) (fun σ1 h2 => evT cfg (run cfg k) ifs σ1 h2) (fun σ1 h2 => evE cfg (run cfg k) elt σ1 h2) (stays w.1 w.2) h1.length w.1 (h1 ++ [.lst []]) with
  | stuck => rw [e] at p2; exact p2.elim
  | exc c h3 => rw [e] at p2; exact p2.elim
  | ok u h3 =>
    rw [e] at p2
    intro ρ3 H3 st3 hr3
    have p3 : Post K cn W ρ1 H1 τ (compR h1 h3) fun ρ' H' _ x => ∀ v, Rep K ρ' H' x v → Q v H' := by
      rw [e] at p1
      exact p1
    unfold compR at p3
    split at p3
    · rename_i ys ey
      split at p3
      · rename_i hc
        obtain ⟨hc1, hc2⟩ := and2 hc
        have eh := heapEq_eq _ _ hc1
        obtain ⟨e3, rfl, hnew⟩ := st3.ext
        have le3 : e3 = [] := by
          have l1 := hr3.len
          rw [eh] at l1
          simp [hr1.len] at l1
          exact l1
        subst le3
        rw [List.append_nil] at hr3 st3
        have eD : (ρ1 ++ [D])[h1.length]? = some D := by rw [List.getElem?_append_right (by rw [hr1.len]; exact Nat.le_refl _), hr1.len]; simp
        obtain ⟨vs, hv, rvs⟩ := hr3.lst ey eD
        have stF : Step ρ1 H1 ρ1 H3 := by
          refine ⟨⟨[], by simp, by simp⟩, fun a o n e => ?_, fun a m => st3.dom a (List.mem_append_left _ m)⟩
          have nd : a ≠ D := ne_of_none e hD
          exact st3.keep a o (fun z => by
            rcases List.mem_append.mp z with z | z
            · exact n z
            · simp at z; exact nd z) (by rw [upd_ne nd]; exact e)
        have hrF : HR K ρ1 H3 h1 := by
          refine ⟨hr1.len, hr1.nd, fun i o a e q => ?_⟩
          have e' : h3[i]? = some o := by rw [eh, List.getElem?_append_left (List.getElem?_eq_some_iff.mp e).1]; exact e
          have q' : (ρ1 ++ [D])[i]? = some a := by rw [List.getElem?_append_left (List.getElem?_eq_some_iff.mp q).1]; exact q
          have old := hr1.obj i o a e q
          cases hr3.obj i o a e' q' with
          | lst q1 r1 =>
            cases old with
            | lst q2 r2 => exact .lst q1 (old_of r2 r1)
        exact p3 ρ1 H3 stF hrF _ (.lst np hv (belows_of hr1.len hc2 rvs))
      · exact p3.elim
    · exact p3.elim
section
variable {cfg : Cfg} {k : Nat} {fa ea : Nat → Addr}
abbrev mEv (cfg : Cfg) (k : Nat) (e : IE) : PSt → PHeap → Res PV := evE cfg (run cfg k) e
mutual
theorem soundE : ∀ (e : IE) (X : Cx) (c : MC) (W : WX), Good cfg X c k fa ea W → ∀ ast, mE cfg c e ast = true →
    PE X ast (RdE X.K (cnE ea) W (evE cfg (run cfg k) e)) ∧ (tOk e = true → PT X ast (RdT X.K (cnE ea) W fun σ h => truR (evE cfg (run cfg k) e σ h)))
  | .var i, X, c, W, G, ast, hm => by
    unfold mE at hm
    split at hm
    · rename_i x pos
      obtain ⟨hm, h3⟩ := and2 hm
      obtain ⟨h1, h2⟩ := and2 hm
      obtain ⟨d1, d2, _⟩ := notD_of h3
      have hp : PE X (.Name x pos) (RdE X.K (cnE ea) W (evE cfg (run cfg k) (.var i))) := by
        refine PE.imp (pe_var (i := i) (by rw [G.N]; exact of_decide_eq_true h1) (G.vis h2) d1 d2) fun τ H Q ⟨ρ, σ, h, sr, hr, p⟩ => ?_
        unfold evE at p
        split at p
        · rename_i v e
          obtain ⟨v', e', r⟩ := sr.at_ i v e
          exact ⟨v', e', p ρ H hr.step hr _ r⟩
        · exact p.elim
      exact ⟨hp, fun _ => ptOf hp fun _ => rfl⟩
    · cases hm
  | .int i, X, c, W, G, ast, hm => by
    unfold mE at hm
    split at hm
    · rename_i j kk pos
      cases of_decide_eq_true hm
      have hp : PE X (.Constant (.int i) kk pos) (RdE X.K (cnE ea) W (evE cfg (run cfg k) (.int i))) := PE.imp pe_int fun τ H Q ⟨ρ, σ, h, sr, hr, p⟩ => p ρ H hr.step hr _ (.int _)
      exact ⟨hp, fun _ => ptOf hp fun _ => rfl⟩
    · cases hm
  | .str s, X, c, W, G, ast, hm => by
    unfold mE at hm
    split at hm
    · rename_i j kk pos
      cases of_decide_eq_true hm
      have hp : PE X (.Constant (.str s) kk pos) (RdE X.K (cnE ea) W (evE cfg (run cfg k) (.str s))) := PE.imp pe_str fun τ H Q ⟨ρ, σ, h, sr, hr, p⟩ => p ρ H hr.step hr _ (.str _)
      exact ⟨hp, fun _ => ptOf hp fun _ => rfl⟩
    · cases hm
  | .bl b, X, c, W, G, ast, hm => by
    unfold mE at hm
    split at hm
    · rename_i j kk pos
      cases (beq_iff_eq.mp hm)
      have hp : PE X (.Constant (.bool b) kk pos) (RdE X.K (cnE ea) W (evE cfg (run cfg k) (.bl b))) := PE.imp pe_bl fun τ H Q ⟨ρ, σ, h, sr, hr, p⟩ => p ρ H hr.step hr _ (.bl _)
      exact ⟨hp, fun _ => ptOf hp fun _ => rfl⟩
    · cases hm
  | .non, X, c, W, G, ast, hm => by
    unfold mE at hm
    split at hm
    · rename_i kk pos
      have hp : PE X (.Constant .none kk pos) (RdE X.K (cnE ea) W (evE cfg (run cfg k) .non)) := PE.imp pe_non fun τ H Q ⟨ρ, σ, h, sr, hr, p⟩ => p ρ H hr.step hr _ .non
      exact ⟨hp, fun _ => ptOf hp fun _ => rfl⟩
    · cases hm
  | .glob g, X, c, W, G, ast, hm => by
    unfold mE at hm
    split at hm
    · rename_i x pos
      obtain ⟨hm, h3⟩ := and2 hm
      obtain ⟨h1, h2⟩ := and2 hm
      obtain ⟨d1, d2, _⟩ := notD_of h2
      split at h3
      · rename_i y v e
        cases of_decide_eq_true h3
        obtain ⟨u, V, hu, rv, rp⟩ := G.facts.glob g _ _ e
        have hp : PE X (.Name x pos) (RdE X.K (cnE ea) W (evE cfg (run cfg k) (.glob g))) := by
          refine PE.imp (pe_glob (G.gl h1) hu rv d1) fun τ H Q ⟨ρ, σ, h, sr, hr, p⟩ => ?_
          unfold evE at p
          rw [e] at p
          exact p ρ H hr.step hr _ (rp ρ H)
        exact ⟨hp, fun _ => ptOf hp fun _ => rfl⟩
      · cases h3
    · cases hm
  | .bin op a b, X, c, W, G, ast, hm => by
    unfold mE at hm
    split at hm
    · rename_i l o r pos
      obtain ⟨hm, h3⟩ := and2 hm
      obtain ⟨h1, h2⟩ := and2 hm
      cases of_decide_eq_true h1
      have hp : PE X (.BinOp l op r pos) (RdE X.K (cnE ea) W (evE cfg (run cfg k) (.bin op a b))) := by
        refine PE.imp (pe_op (op_binV G.hu op) (soundE a X c W G l h2).1 (soundE b X c W G r h3).1) fun τ H Q q => ?_
        obtain ⟨ρ, σ, h, sr, hr, p⟩ := q
        unfold evE at p
        refine ⟨ρ, σ, h, sr, hr, (Post.bind p).imp ?_⟩
        intro ρ1 H1 h1 x _ _ ⟨st, hr1, p1⟩ v rv
        refine ⟨ρ1, σ, h1, sr.mono st, hr1, (Post.bind p1).imp ?_⟩
        intro ρ2 H2 h2 y _ _ ⟨st2, hr2, p2⟩ u ru
        obtain ⟨z, e, w⟩ := Post.lift p2
        exact ⟨ρ2, h2, x, y, z, hr2, rv.mono st2, ru, e, fun H' w' s' hr' r' => w ρ2 H' s' hr' w' r'⟩
      exact ⟨hp, fun _ => ptOf hp fun _ => rfl⟩
    · cases hm
  | .neg a, X, c, W, G, ast, hm => by
    unfold mE at hm
    split at hm
    · rename_i x pos
      have hp : PE X (.UnaryOp .USub x pos) (RdE X.K (cnE ea) W (evE cfg (run cfg k) (.neg a))) := by
        refine PE.imp (pe_un un_neg (soundE a X c W G x hm).1) fun τ H Q q => ?_
        obtain ⟨ρ, σ, h, sr, hr, p⟩ := q
        unfold evE at p
        refine ⟨ρ, σ, h, sr, hr, (Post.bind p).imp ?_⟩
        intro ρ1 H1 h1 x _ _ ⟨st, hr1, p1⟩ v rv
        split at p1
        · cases rv
          exact ⟨_, rfl, p1 ρ1 H1 hr1.step hr1 _ (.int _)⟩
        · exact p1.elim
      exact ⟨hp, fun _ => ptOf hp fun _ => rfl⟩
    · cases hm
  | .cmp op a b, X, c, W, G, ast, hm => by
    unfold mE at hm
    split at hm
    · rename_i l o r pos
      obtain ⟨hm, h4⟩ := and2 hm
      obtain ⟨hm, h3⟩ := and2 hm
      obtain ⟨h1, h2⟩ := and2 hm
      cases of_decide_eq_true h1
      have key : ∀ τ H Q, RdE X.K (cnE ea) W (evE cfg (run cfg k) (.cmp op a b)) τ H Q → tOp (rC X.K (cmpV op)) (RdE X.K (cnE ea) W (evE cfg (run cfg k) a)) (RdE X.K (cnE ea) W (evE cfg (run cfg k) b)) τ H Q := fun τ H Q q => by
        obtain ⟨ρ, σ, h, sr, hr, p⟩ := q
        unfold evE at p
        refine ⟨ρ, σ, h, sr, hr, (Post.bind p).imp ?_⟩
        intro ρ1 H1 h1 x _ _ ⟨st, hr1, p1⟩ v rv
        refine ⟨ρ1, σ, h1, sr.mono st, hr1, (Post.bind p1).imp ?_⟩
        intro ρ2 H2 h2 y _ _ ⟨st2, hr2, p2⟩ u ru
        obtain ⟨z, e, w⟩ := Post.lift p2
        obtain ⟨bb, e2, rfl⟩ := Option.map_eq_some_iff.mp e
        exact ⟨ρ2, h2, x, y, bb, hr2, rv.mono st2, ru, e2, w ρ2 H2 hr2.step hr2 _ (.bl _)⟩
      refine ⟨PE.imp (pe_cmpR (op_cmpC G.hu op) (soundE a X c W G l h3).1 (soundE b X c W G r h4).1 (mark_of h2)) key, fun _ => ?_⟩
      refine PT.imp (pt_cmpR (op_cmpC G.hu op) (soundE a X c W G l h3).1 (soundE b X c W G r h4).1 (mark_of h2)) (testOf key ?_)
      intro σ h x h' e
      unfold evE at e
      obtain ⟨y, h1, _, e⟩ := bind_ok_of e
      obtain ⟨y2, h2, _, e⟩ := bind_ok_of e
      exact bl_lift e
    · cases hm
  | .chain op op' a b d, X, c, W, G, ast, hm => by
    unfold mE at hm
    split at hm
    · rename_i l o o' r r' pos
      obtain ⟨hm, h6⟩ := and2 hm
      obtain ⟨hm, h5⟩ := and2 hm
      obtain ⟨hm, h4⟩ := and2 hm
      obtain ⟨hm, h3⟩ := and2 hm
      obtain ⟨h1, h2⟩ := and2 hm
      cases of_decide_eq_true h1
      cases of_decide_eq_true h2
      have key : ∀ τ H Q, RdE X.K (cnE ea) W (evE cfg (run cfg k) (.chain op op' a b d)) τ H Q → tChain (rC X.K (cmpV op)) (rC X.K (cmpV op')) (RdE X.K (cnE ea) W (evE cfg (run cfg k) a)) (RdE X.K (cnE ea) W (evE cfg (run cfg k) b)) (RdE X.K (cnE ea) W (evE cfg (run cfg k) d)) τ H Q := fun τ H Q q => by
        obtain ⟨ρ, σ, h, sr, hr, p⟩ := q
        unfold evE at p
        refine ⟨ρ, σ, h, sr, hr, (Post.bind p).imp ?_⟩
        intro ρ1 H1 h1 x _ _ ⟨st, hr1, p1⟩ v rv
        refine ⟨ρ1, σ, h1, sr.mono st, hr1, (Post.bind p1).imp ?_⟩
        intro ρ2 H2 h2 y _ _ ⟨st2, hr2, p2⟩ u ru
        have sr2 := (sr.mono st).mono st2
        obtain ⟨bb, e2, w⟩ := Post.lift (Post.bind p2)
        refine ⟨ρ2, h2, x, y, bb, hr2, rv.mono st2, ru, e2, bb, rfl, ?_⟩
        obtain ⟨_, _, p3⟩ := w ρ2 H2 hr2.step hr2
        cases bb with
        | false =>
          exact p3 ρ2 H2 hr2.step hr2 _ (.bl _)
        | true =>
          refine ⟨ρ2, σ, h2, sr2, hr2, (Post.bind p3).imp ?_⟩
          intro ρ4 H4 h4 z _ _ ⟨st4, hr4, p4⟩ t rt
          obtain ⟨z2, e, w⟩ := Post.lift p4
          obtain ⟨bb2, e2, rfl⟩ := Option.map_eq_some_iff.mp e
          exact ⟨ρ4, h4, y, z, bb2, hr4, ru.mono st4, rt, e2, w ρ4 H4 hr4.step hr4 _ (.bl _)⟩
      have lm : lastMarks [op, op'] [r, r'] = false := mark_of h3
      refine ⟨PE.imp (pe_chain (op_cmpC G.hu op) (op_cmpC G.hu op') (soundE a X c W G l h4).1 (soundE b X c W G r h5).1 (soundE d X c W G r' h6).1 lm) key, fun _ => ?_⟩
      refine PT.imp (pt_chain (op_cmpC G.hu op) (op_cmpC G.hu op') (soundE a X c W G l h4).1 (soundE b X c W G r h5).1 (soundE d X c W G r' h6).1 lm) (testOf key ?_)
      intro σ h x h' e
      unfold evE at e
      obtain ⟨y, h1, _, e⟩ := bind_ok_of e
      obtain ⟨y2, h2, _, e⟩ := bind_ok_of e
      obtain ⟨y3, h3, _, e⟩ := bind_ok_of e
      cases y3 with
      | false => cases e; exact ⟨_, rfl⟩
      | true =>
        obtain ⟨y4, h4, _, e⟩ := bind_ok_of e
        exact bl_lift e
    · cases hm
  | .bool op xs, X, c, W, G, ast, hm => by
    unfold mE at hm
    split at hm
    · rename_i o vs pos
      obtain ⟨h1, h2⟩ := and2 hm
      cases of_decide_eq_true h1
      have q := soundB xs op X c W G vs pos h2
      exact ⟨q.1, fun _ => q.2.pt⟩
    · cases hm
  | .not a, X, c, W, G, ast, hm => by
    unfold mE at hm
    split at hm
    · rename_i x pos
      obtain ⟨h1, h2⟩ := and2 hm
      have ih := soundE a X c W G x h2
      refine ⟨PE.imp (pe_not ih.1) fun τ H Q q => ?_, fun _ => PT.imp (pt_not (ih.2 h1)) fun τ H Q q => ?_⟩
      · obtain ⟨ρ, σ, h, sr, hr, p⟩ := q
        unfold evE at p
        refine ⟨ρ, σ, h, sr, hr, (Post.bind p).imp ?_⟩
        intro ρ1 H1 h1 x _ _ ⟨st, hr1, p1⟩ v rv
        split at p1
        · cases rv
          exact ⟨_, rfl, p1 ρ1 H1 hr1.step hr1 _ (.bl _)⟩
        · exact p1.elim
      · obtain ⟨ρ, σ, h, sr, hr, p⟩ := q
        refine ⟨ρ, σ, h, sr, hr, ?_⟩
        have p : Post X.K (cnE ea) W ρ H τ (truR ((evE cfg (run cfg k) a σ h).bind fun x h1 => match x with
          | .bl b => .ok (.bl (!b)) h1
          | _ => .stuck)) (fun _ H' _ x => Q x H') := by
          dsimp only at p
          unfold evE at p
          exact p
        show Post X.K (cnE ea) W ρ H τ (truR (evE cfg (run cfg k) a σ h)) (fun _ H' _ x => Q (!x) H')
        cases e : evE cfg (run cfg k) a σ h with
        | ok y h1 =>
          rw [e] at p
          cases y with
          | bl b => exact p
          | _ => exact p.elim
        | exc cc h1 => rw [e] at p; exact p
        | stuck => rw [e] at p; exact p
    · cases hm
  | .ite t a b, X, c, W, G, ast, hm => by
    unfold mE at hm
    split at hm
    · rename_i ct x y pos
      obtain ⟨hm, h4⟩ := and2 hm
      obtain ⟨hm, h3⟩ := and2 hm
      obtain ⟨h1, h2⟩ := and2 hm
      refine ⟨PE.imp (pe_ifExp ((soundE t X c W G ct h2).2 h1) (soundE a X c W G x h3).1 (soundE b X c W G y h4).1) fun τ H Q q => ?_, fun z => by cases z⟩
      obtain ⟨ρ, σ, h, sr, hr, p⟩ := q
      unfold evE at p
      refine ⟨ρ, σ, h, sr, hr, (Post.bind p).imp ?_⟩
      intro ρ1 H1 h1 bb _ _ ⟨st, hr1, p1⟩
      cases bb with
      | true => exact ⟨ρ1, σ, h1, sr.mono st, hr1, p1⟩
      | false => exact ⟨ρ1, σ, h1, sr.mono st, hr1, p1⟩
    · cases hm
  | .call f args, X, c, W, G, ast, hm => by
    unfold mE at hm
    split at hm
    · rename_i x p es pos
      obtain ⟨hm, h5⟩ := and2 hm
      obtain ⟨hm, h4⟩ := and2 hm
      obtain ⟨hm, h3⟩ := and2 hm
      obtain ⟨h1, h2⟩ := and2 hm
      obtain ⟨d1, _, _⟩ := notD_of h3
      split at h4
      · rename_i F eF
        have eN : x = F.name := of_decide_eq_true h4
        subst eN
        obtain ⟨fd, hmg, hkp, hb, hF⟩ := G.facts.fns f F eF
        have ih := soundEs args X c W G es h5
        have key : ∀ τ H Q, RdE X.K (cnE ea) W (evE cfg (run cfg k) (.call f args)) τ H Q → tCallS (spF X.K (cnE ea) (run cfg k f) F.params.length) (WE W) (RdA X.K (cnE ea) W (evEs cfg (run cfg k) args)) τ H Q := fun τ H Q q => by
          obtain ⟨ρ, σ, h, sr, hr, p⟩ := q
          unfold evE at p
          refine ⟨ρ, σ, h, sr, hr, (Post.bind p).imp ?_⟩
          intro ρ1 H1 h1 xs _ _ ⟨st, hr1, p1⟩ vs rv
          exact ⟨by rw [← rv.length]; exact run_len eF p1, ρ1, h1, xs, hr1, rv, Post.retau p1⟩
        have hp : PE X (.Call (.Name F.name p) es [] pos) (RdE X.K (cnE ea) W (evE cfg (run cfg k) (.call f args))) := by
          cases args with
          | nil =>
            cases es with
            | cons e es => simp [mEs] at h5
            | nil =>
              refine PE.imp (pe_callS0 hF (G.room h1) (G.gl h2) hmg hkp hb (fun σ => passAt G.tk σ) d1) fun τ H Q q => ?_
              obtain ⟨ρ, σ, h, sr, hr, q2⟩ := key τ H Q q
              exact q2 ρ H hr.step hr [] .nil
          | cons a r =>
            cases es with
            | nil => simp [mEs] at h5
            | cons e es =>
              have h6 := h5
              unfold mEs at h6
              obtain ⟨h6, h8⟩ := and2 h6
              obtain ⟨h6, h7⟩ := and2 h6
              exact PE.imp (pe_callS hF (G.room h1) (G.gl h2) hmg hkp hb (fun σ => passAt G.tk σ) ih d1 (starE h6) (starNo h8)) key
        exact ⟨hp, fun _ => ptOf hp fun _ => rfl⟩
      · cases h4
    · cases hm
  | .bcall f args, X, c, W, G, ast, hm => by
    unfold mE at hm
    split at hm
    · rename_i x p es pos
      obtain ⟨hm, h6⟩ := and2 hm
      obtain ⟨hm, h5⟩ := and2 hm
      obtain ⟨hm, h4⟩ := and2 hm
      obtain ⟨hm, h3⟩ := and2 hm
      obtain ⟨h1, h2⟩ := and2 hm
      obtain ⟨d1, _, d3⟩ := notD_of h3
      have eN : x = Str.ofString (bfName f) := of_decide_eq_true h4
      subst eN
      have hn := G.facts.blt _ (bf_blt f)
      have ih := soundEs args X c W G es h6
      have key : ∀ τ H Q, RdE X.K (cnE ea) W (evE cfg (run cfg k) (.bcall f args)) τ H Q → tCB (rF X.K (bfV f)) (RdA X.K (cnE ea) W (evEs cfg (run cfg k) args)) τ H Q := fun τ H Q q => by
        obtain ⟨ρ, σ, h, sr, hr, p⟩ := q
        unfold evE at p
        refine ⟨ρ, σ, h, sr, hr, (Post.bind p).imp ?_⟩
        intro ρ1 H1 h1 xs _ _ ⟨st, hr1, p1⟩ vs rv
        obtain ⟨z, e, w⟩ := Post.lift p1
        exact ⟨ρ1, h1, xs, z, hr1, rv, e, fun H' w' s' hr' r' => w ρ1 H' s' hr' w' r'⟩
      have cb := call_bf (X := X) (G.calm h1) f
      have bb := bf_boot f
      have hp : PE X (.Call (.Name (Str.ofString (bfName f)) p) es [] pos) (RdE X.K (cnE ea) W (evE cfg (run cfg k) (.bcall f args))) := by
        cases es with
        | nil => cases h5
        | cons e es =>
          cases args with
          | nil => simp [mEs] at h6
          | cons a r =>
            have h7 := h6
            unfold mEs at h7
            obtain ⟨h7, h9⟩ := and2 h7
            obtain ⟨h7, h8⟩ := and2 h7
            cases tb : bfIsTy f with
            | true =>
              have ev : bfVal f = .type (bfName f) := by unfold bfVal; rw [tb]; rfl
              rw [ev] at cb bb
              exact PE.imp (pe_callTy cb (G.gl h2) hn bb ih d3 d1 (starE h7) (starNo h9)) key
            | false =>
              have ev : bfVal f = .builtin (bfName f) := by unfold bfVal; rw [tb]; rfl
              rw [ev] at cb bb
              exact PE.imp (pe_callB cb (G.gl h2) hn bb ih d3 d1 (starE h7) (starNo h9)) key
      exact ⟨hp, fun _ => ptOf hp fun _ => rfl⟩
    · cases hm
  | .isi a t, X, c, W, G, ast, hm => by
    unfold mE at hm
    split at hm
    · rename_i x p y z p2 pos
      obtain ⟨hm, h6⟩ := and2 hm
      obtain ⟨hm, h5⟩ := and2 hm
      obtain ⟨hm, h4⟩ := and2 hm
      obtain ⟨hm, h3⟩ := and2 hm
      obtain ⟨h1, h2⟩ := and2 hm
      have eN : x = Str.ofString "isinstance" := of_decide_eq_true h2
      subst eN
      have eM : z = Str.ofString (istName t) := of_decide_eq_true h4
      subst eM
      obtain ⟨d1, _, d3⟩ := notD_of (ist_notD t)
      have ih := (soundE a X c W G y h6).1
      have pz : PE X (.Name (Str.ofString (istName t)) p2) (tC (.ty (istName t))) := pe_bltn (G.gl h3) (G.facts.blt _ (ist_blt t)) (ist_boot t) rfl d3 d1
      have hp : PE X (.Call (.Name (Str.ofString "isinstance") p) [y, .Name (Str.ofString (istName t)) p2] [] pos) (RdE X.K (cnE ea) W (evE cfg (run cfg k) (.isi a t))) := by
        refine PE.imp (pe_callB call_isi (G.gl h1) (G.facts.blt _ (by decide +kernel)) (by decide +kernel) (pa_cons ih (pa_cons pz pa_nil) (starE h5)) (by decide +kernel) (by decide +kernel) (starE h5)) fun τ H Q q => ?_
        obtain ⟨ρ, σ, h, sr, hr, p⟩ := q
        unfold evE at p
        refine ⟨ρ, σ, h, sr, hr, (Post.bind p).imp ?_⟩
        intro ρ1 H1 h1 x _ _ ⟨st, hr1, p1⟩ v rv
        obtain ⟨z, e, w⟩ := Post.lift p1
        obtain ⟨b, e2, rfl⟩ := Option.map_eq_some_iff.mp e
        obtain ⟨ty, h1, h2⟩ := isV_of hr1 rv e2
        exact ⟨v, .ty (istName t), ty, _, b, rfl, .ty _, h1, h2, w ρ1 H1 hr1.step hr1 _ (.bl _)⟩
      exact ⟨hp, fun _ => ptOf hp fun _ => rfl⟩
    · cases hm
  | .meth m o args, X, c, W, G, ast, hm => by
    unfold mE at hm
    split at hm
    · rename_i ob name apos es cpos
      obtain ⟨hm, h8⟩ := and2 hm
      obtain ⟨hm, h7⟩ := and2 hm
      obtain ⟨hm, h6⟩ := and2 hm
      obtain ⟨hm, h5⟩ := and2 hm
      obtain ⟨hm, h4⟩ := and2 hm
      obtain ⟨hm, h3⟩ := and2 hm
      obtain ⟨h1, h2⟩ := and2 hm
      have eN : name = (bmName m).1 := of_decide_eq_true h2
      subst eN
      obtain ⟨s1, s2, s3⟩ := slot_bm m
      have iho := (soundE o X c W G ob h7).1
      have ih := soundEs args X c W G es h8
      have hp : PE X (.Call (.Attribute ob (bmName m).1 apos) es [] cpos) (RdE X.K (cnE ea) W (evE cfg (run cfg k) (.meth m o args))) := by
        cases es with
        | nil => cases h5
        | cons e es =>
          cases args with
          | nil => simp [mEs] at h8
          | cons a r =>
            have h9 := h8
            unfold mEs at h9
            obtain ⟨h9, h11⟩ := and2 h9
            obtain ⟨h9, h10⟩ := and2 h9
            refine PE.imp (pe_bm s1 s2 s3 (mt_bm (G.calm h1) m) iho ih (base_of h3 _) (few_ok h8 (of_decide_eq_true h6)) h4 (starE h9) (starNo h11)) fun τ H Q q => ?_
            obtain ⟨ρ, σ, h, sr, hr, p⟩ := q
            unfold evE at p
            refine ⟨ρ, σ, h, sr, hr, (Post.bind p).imp ?_⟩
            intro ρ1 H1 h1 x _ _ ⟨st, hr1, p1⟩ v rv
            split at p1
            · rename_i hc
              refine ⟨rcv_of hr1 rv hc, ρ1, σ, h1, sr.mono st, hr1, (Post.bind p1).imp ?_⟩
              intro ρ2 H2 h2 xs _ _ ⟨st2, hr2, p2⟩ vs rvs
              exact ⟨ρ2, h2, x, xs, hr2, rv.mono st2, rvs, Post.noexc (fun c h e => bm_noexc e) p2⟩
            · exact p1.elim
      exact ⟨hp, fun _ => ptOf hp fun _ => rfl⟩
    · cases hm
  | .tup xs, X, c, W, G, ast, hm => by
    unfold mE at hm
    split at hm
    · rename_i es kk pos
      obtain ⟨hle, h2⟩ := and2 hm
      have hp : PE X (.Tuple es kk pos) (RdE X.K (cnE ea) W (evE cfg (run cfg k) (.tup xs))) := by
        refine PE.imp (pe_tup (soundEs xs X c W G es h2)) fun τ H Q q => ?_
        obtain ⟨ρ, σ, h, sr, hr, p⟩ := q
        unfold evE at p
        refine ⟨ρ, σ, h, sr, hr, ?_⟩
        cases e : evEs cfg (run cfg k) xs σ h with
        | ok ys h1 =>
          rw [e] at p
          intro ρ1 H1 st hr1 vs rvs
          refine ⟨by rw [← rvs.length, evEs_len e, ← mEs_len h2]; exact Nat.le_trans (of_decide_eq_true hle) (by decide), Wants.tup (h := h1) (fun H' w s' hr' r' => p ρ1 H' (st.trans s') hr' w r') hr1 rvs⟩
        | exc cc h1 => rw [e] at p; exact p
        | stuck => rw [e] at p; exact p
      exact ⟨hp, fun _ => ptOf hp fun _ => rfl⟩
    · cases hm
  | .list mu xs, X, c, W, G, ast, hm => by
    unfold mE at hm
    split at hm
    · rename_i es pos
      obtain ⟨hle, h2⟩ := and2 hm
      have hp : PE X (.List es pos) (RdE X.K (cnE ea) W (evE cfg (run cfg k) (.list mu xs))) := by
        refine PE.imp (pe_lst (soundEs xs X c W G es h2)) fun τ H Q q => ?_
        obtain ⟨ρ, σ, h, sr, hr, p⟩ := q
        unfold evE at p
        refine ⟨ρ, σ, h, sr, hr, ?_⟩
        cases e : evEs cfg (run cfg k) xs σ h with
        | ok ys h1 =>
          rw [e] at p
          intro ρ1 H1 st hr1 vs rvs
          refine ⟨by rw [← rvs.length, evEs_len e, ← mEs_len h2]; exact Nat.le_trans (of_decide_eq_true hle) (by decide), ?_⟩
          cases mu with
          | false => exact Wants.lst (h := h1) (fun H' w s' hr' r' => p ρ1 H' (st.trans s') hr' w r') hr1 rvs
          | true =>
            intro pp hpp
            exact p (ρ1 ++ [pp]) _ (st.trans (.own hr1.dom hpp)) (hr1.alloc hpp rvs) _ (.ref (by rw [List.getElem?_append_right (by rw [hr1.len]; exact Nat.le_refl _), hr1.len]; simp))
        | exc cc h1 => rw [e] at p; exact p
        | stuck => rw [e] at p; exact p
      exact ⟨hp, fun _ => ptOf hp fun _ => rfl⟩
    · cases hm
  | .sub a i, X, c, W, G, ast, hm => by
    unfold mE at hm
    split at hm
    · rename_i l r pos
      obtain ⟨hm, h3⟩ := and2 hm
      obtain ⟨h1, h2⟩ := and2 hm
      have hp : PE X (.Subscript l r pos) (RdE X.K (cnE ea) W (evE cfg (run cfg k) (.sub a i))) := by
        refine PE.imp (pe_ix ix_V (soundE a X c W G l h2).1 (soundE i X c W G r h3).1 (plain_of h1)) fun τ H Q q => ?_
        obtain ⟨ρ, σ, h, sr, hr, p⟩ := q
        unfold evE at p
        refine ⟨ρ, σ, h, sr, hr, (Post.bind p).imp ?_⟩
        intro ρ1 H1 h1 x _ _ ⟨st, hr1, p1⟩ v rv
        refine ⟨ρ1, σ, h1, sr.mono st, hr1, (Post.bind p1).imp ?_⟩
        intro ρ2 H2 h2 y _ _ ⟨st2, hr2, p2⟩ u ru
        obtain ⟨z, e, w⟩ := Post.lift p2
        exact ⟨ρ2, h2, x, y, z, hr2, rv.mono st2, ru, e, fun H' w' s' hr' r' => w ρ2 H' s' hr' w' r'⟩
      exact ⟨hp, fun _ => ptOf hp fun _ => rfl⟩
    · cases hm
  | .slice a lo hi, X, c, W, G, ast, hm => by
    unfold mE at hm
    split at hm
    · rename_i l lo' hi' p2 pos
      obtain ⟨hm, h3⟩ := and2 hm
      obtain ⟨h1, h2⟩ := and2 hm
      have hp : PE X (.Subscript l (.Slice lo' hi' none p2) pos) (RdE X.K (cnE ea) W (evE cfg (run cfg k) (.slice a lo hi))) := by
        refine PE.imp (pe_slice sl_V (soundE a X c W G l h1).1 (soundO lo X c W G lo' h2) (soundO hi X c W G hi' h3)) fun τ H Q q => ?_
        obtain ⟨ρ, σ, h, sr, hr, p⟩ := q
        unfold evE at p
        refine ⟨ρ, σ, h, sr, hr, (Post.bind p).imp ?_⟩
        intro ρ1 H1 h1 x _ _ ⟨st, hr1, p1⟩ v rv
        refine ⟨ρ1, σ, h1, sr.mono st, hr1, (Post.bind p1).imp ?_⟩
        intro ρ2 H2 h2 y _ _ ⟨st2, hr2, p2⟩
        refine ⟨ρ2, σ, h2, (sr.mono st).mono st2, hr2, (Post.bind p2).imp ?_⟩
        intro ρ3 H3 h3 y3 _ _ ⟨st3, hr3, p3⟩
        obtain ⟨z, e, w⟩ := Post.lift p3
        exact ⟨ρ3, h3, x, z, hr3, (rv.mono st2).mono st3, e, fun H' w' s' hr' r' => w ρ3 H' s' hr' w' r'⟩
      exact ⟨hp, fun _ => ptOf hp fun _ => rfl⟩
    · cases hm
  | .comp elt tg it ifs own, X, c, W, G, ast, hm => by
    unfold mE at hm
    split at hm
    · rename_i el t i fs scope pos
      obtain ⟨hm, h8⟩ := and2 hm
      obtain ⟨hm, h7⟩ := and2 hm
      obtain ⟨hm, h6⟩ := and2 hm
      obtain ⟨hm, h5⟩ := and2 hm
      obtain ⟨hm, h4⟩ := and2 hm
      obtain ⟨hm, h3⟩ := and2 hm
      obtain ⟨h1, h2⟩ := and2 hm
      have hp : PE X (.ListComp el [⟨t, i, fs, 0⟩] scope pos) (RdE X.K (cnE ea) W (evE cfg (run cfg k) (.comp elt tg it ifs own))) := by
        refine PE.imp (pe_lc (own := own) (g := gT X.K tg) (tt := RdT X.K (cnE ea) (fun _ _ _ _ => False) (evT cfg (run cfg k) ifs)) (te := RdE X.K (cnE ea) (fun _ _ _ _ => False) (evE cfg (run cfg k) elt)) (G.calm h1) G.nd (soundI it X c W G t i h2) (by rw [G.N, G.sc]; exact blkOk_by h4)
          (fun s H C cl fp => pg_T (G.blk scope s H C cl fp) h6) (fun s H C cl fp => soundF ifs _ _ _ (G.blk scope s H C cl fp) fs h7) (fun s H C cl fp => (soundE elt _ _ _ (G.blk scope s H C cl fp) el h8).1) (set_of h3)) fun τ H Q q => ?_
        exact lc_of h5 q
      exact ⟨hp, fun _ => ptOf hp fun _ => rfl⟩
    · cases hm
theorem soundEs : ∀ (es : IEs) (X : Cx) (c : MC) (W : WX), Good cfg X c k fa ea W → ∀ asts, mEs cfg c es asts = true → PA X asts (RdA X.K (cnE ea) W (evEs cfg (run cfg k) es))
  | .nil, X, c, W, G, asts, hm => by
    cases asts with
    | cons a r => simp [mEs] at hm
    | nil => exact PA.imp pa_nil fun τ H Q ⟨ρ, σ, h, sr, hr, p⟩ => p ρ H hr.step hr [] .nil
  | .cons a r, X, c, W, G, asts, hm => by
    cases asts with
    | nil => simp [mEs] at hm
    | cons e es =>
      unfold mEs at hm
      obtain ⟨hm, h3⟩ := and2 hm
      obtain ⟨h1, h2⟩ := and2 hm
      refine PA.imp (pa_cons (soundE a X c W G e h2).1 (soundEs r X c W G es h3) (starE h1)) fun τ H Q q => ?_
      obtain ⟨ρ, σ, h, sr, hr, p⟩ := q
      unfold evEs at p
      refine ⟨ρ, σ, h, sr, hr, (Post.bind p).imp ?_⟩
      intro ρ1 H1 h1 x _ _ ⟨st, hr1, p1⟩ v rv
      refine ⟨ρ1, σ, h1, sr.mono st, hr1, (Post.bind p1).imp ?_⟩
      intro ρ2 H2 h2 xs _ _ ⟨st2, hr2, p2⟩ vs rvs
      exact p2 ρ2 H2 hr2.step hr2 _ (.cons (rv.mono st2) rvs)
theorem soundB : ∀ (xs : IEs) (op : BoolOp) (X : Cx) (c : MC) (W : WX), Good cfg X c k fa ea W → ∀ asts pos, mB cfg c xs asts = true →
    PE X (.BoolOp op asts pos) (RdE X.K (cnE ea) W (evB cfg (run cfg k) op xs)) ∧ PW X (.BoolOp op asts pos) (RdT X.K (cnE ea) W fun σ h => truR (evB cfg (run cfg k) op xs σ h))
  | .nil, op, X, c, W, G, asts, pos, hm => by simp [mB] at hm
  | .cons a r, op, X, c, W, G, asts, pos, hm => by
    cases asts with
    | nil => simp [mB] at hm
    | cons e es =>
      unfold mB at hm
      obtain ⟨hm, h3⟩ := and2 hm
      obtain ⟨h1, h2⟩ := and2 hm
      have ih := soundE a X c W G e h2
      cases r with
      | nil =>
        cases es with
        | cons e2 es2 => cases h3
        | nil =>
          refine ⟨PE.imp (pe_one ih.1) fun τ H Q q => ?_, ?_⟩
          · obtain ⟨ρ, σ, h, sr, hr, p⟩ := q
            unfold evB at p
            refine ⟨ρ, σ, h, sr, hr, (Post.bind p).imp ?_⟩
            intro ρ1 H1 h1 x _ _ ⟨st, hr1, p1⟩ v rv
            split at p1
            · cases rv
              exact p1 ρ1 H1 hr1.step hr1 _ (.bl _)
            · exact p1.elim
          · have key : ∀ τ H (Q : Bool → Hp → Prop), RdT X.K (cnE ea) W (fun σ h => truR (evB cfg (run cfg k) op (.cons a .nil) σ h)) τ H Q → RdT X.K (cnE ea) W (fun σ h => truR (evE cfg (run cfg k) a σ h)) τ H Q := fun τ H Q q => by
              obtain ⟨ρ, σ, h, sr, hr, p⟩ := q
              refine ⟨ρ, σ, h, sr, hr, ?_⟩
              dsimp only at p
              unfold evB at p
              dsimp only
              cases e : evE cfg (run cfg k) a σ h with
              | ok y h1 =>
                rw [e] at p
                cases y with
                | bl b => exact p
                | _ => exact p.elim
              | exc cc h1 => rw [e] at p; exact p
              | stuck => rw [e] at p; exact p
            cases op with
            | And => exact PW.imp (pw_and1 (ih.2 h1)) key
            | Or => exact PW.imp (pw_or1 (ih.2 h1)) key
      | cons a2 r2 =>
        cases es with
        | nil => simp [mB] at h3
        | cons e2 es2 =>
          have ih2 := soundB (.cons a2 r2) op X c W G (e2 :: es2) pos h3
          cases op with
          | And =>
            refine ⟨PE.imp (pe_and ih.1 ih2.1) fun τ H Q q => ?_, PW.imp (pw_and (ih.2 h1) ih2.2) fun τ H Q q => ?_⟩
            · obtain ⟨ρ, σ, h, sr, hr, p⟩ := q
              unfold evB at p
              refine ⟨ρ, σ, h, sr, hr, (Post.bind p).imp ?_⟩
              intro ρ1 H1 h1 x _ _ ⟨st, hr1, p1⟩ v rv
              split at p1
              · cases rv
                rename_i b
                refine ⟨b, rfl, ?_⟩
                cases b with
                | true => exact ⟨ρ1, σ, h1, sr.mono st, hr1, p1⟩
                | false => exact p1 ρ1 H1 hr1.step hr1 _ (.bl _)
              · exact p1.elim
            · obtain ⟨ρ, σ, h, sr, hr, p⟩ := q
              refine ⟨ρ, σ, h, sr, hr, ?_⟩
              dsimp only at p
              unfold evB at p
              dsimp only
              cases e : evE cfg (run cfg k) a σ h with
              | ok y h1 =>
                rw [e] at p
                cases y with
                | bl b =>
                  intro ρ1 H1 st hr1
                  cases b with
                  | true => exact ⟨ρ1, σ, h1, sr.mono st, hr1, Post.mono p st⟩
                  | false => exact p ρ1 H1 st hr1
                | _ => exact p.elim
              | exc cc h1 => rw [e] at p; exact p
              | stuck => rw [e] at p; exact p
          | Or =>
            refine ⟨PE.imp (pe_or ih.1 ih2.1) fun τ H Q q => ?_, PW.imp (pw_or (ih.2 h1) ih2.2) fun τ H Q q => ?_⟩
            · obtain ⟨ρ, σ, h, sr, hr, p⟩ := q
              unfold evB at p
              refine ⟨ρ, σ, h, sr, hr, (Post.bind p).imp ?_⟩
              intro ρ1 H1 h1 x _ _ ⟨st, hr1, p1⟩ v rv
              split at p1
              · cases rv
                rename_i b
                refine ⟨b, rfl, ?_⟩
                cases b with
                | false => exact ⟨ρ1, σ, h1, sr.mono st, hr1, p1⟩
                | true => exact p1 ρ1 H1 hr1.step hr1 _ (.bl _)
              · exact p1.elim
            · obtain ⟨ρ, σ, h, sr, hr, p⟩ := q
              refine ⟨ρ, σ, h, sr, hr, ?_⟩
              dsimp only at p
              unfold evB at p
              dsimp only
              cases e : evE cfg (run cfg k) a σ h with
              | ok y h1 =>
                rw [e] at p
                cases y with
                | bl b =>
                  intro ρ1 H1 st hr1
                  cases b with
                  | false => exact ⟨ρ1, σ, h1, sr.mono st, hr1, Post.mono p st⟩
                  | true => exact p ρ1 H1 st hr1
                | _ => exact p.elim
              | exc cc h1 => rw [e] at p; exact p
              | stuck => rw [e] at p; exact p
theorem soundF : ∀ (xs : IEs) (X : Cx) (c : MC) (W : WX), Good cfg X c k fa ea W → ∀ asts, mF cfg c xs asts = true → PTs X asts (RdT X.K (cnE ea) W (evT cfg (run cfg k) xs))
  | .nil, X, c, W, G, asts, hm => by
    cases asts with
    | cons a r => simp [mF] at hm
    | nil => exact PTs.imp pts_nil fun τ H Q ⟨ρ, σ, h, sr, hr, p⟩ => p ρ H hr.step hr
  | .cons a .nil, X, c, W, G, asts, hm => by
    cases asts with
    | nil => exact nomatch (show false = true from hm)
    | cons e es =>
      cases es with
      | cons e2 es2 => exact nomatch (show false = true from hm)
      | nil =>
        obtain ⟨h1, h2⟩ := and2 (show (tOk a && mE cfg c a e) = true from hm)
        refine PTs.imp (pts_one ((soundE a X c W G e h2).2 h1)) fun τ H Q q => ?_
        unfold evT at q
        exact q
  | .cons a (.cons b r), X, c, W, G, asts, hm => by
    cases asts with
    | nil => exact nomatch (show false = true from hm)
    | cons e es =>
      cases es with
      | cons e2 es2 => exact nomatch (show false = true from hm)
      | nil => exact nomatch (show false = true from hm)
theorem soundO : ∀ (o : IO) (X : Cx) (c : MC) (W : WX), Good cfg X c k fa ea W → ∀ ast, mO cfg c o ast = true → L2.PO X ast (RdO X.K (cnE ea) W (evO cfg (run cfg k) o))
  | .none, X, c, W, G, ast, hm => by
    cases ast with
    | some a => simp [mO] at hm
    | none => exact PO.imp po_none fun τ H Q ⟨ρ, σ, h, sr, hr, p⟩ => p ρ H hr.step hr
  | .some e, X, c, W, G, ast, hm => by
    cases ast with
    | none => simp [mO] at hm
    | some a =>
      unfold mO at hm
      refine PO.imp (po_some (soundE e X c W G a hm).1) fun τ H Q q => ?_
      obtain ⟨ρ, σ, h, sr, hr, p⟩ := q
      unfold evO at p
      refine ⟨ρ, σ, h, sr, hr, (Post.bind p).imp ?_⟩
      intro ρ1 H1 h1 x _ _ ⟨st, hr1, p1⟩ v rv
      split at p1
      · cases rv
        exact ⟨_, rfl, p1 ρ1 H1 hr1.step hr1⟩
      · exact p1.elim
theorem soundI : ∀ (i : II) (X : Cx) (c : MC) (W : WX), Good cfg X c k fa ea W → ∀ tg ast, mI cfg c i tg ast = true → PI X tg ast (RdI X.K (cnE ea) W (evI cfg (run cfg k) i))
  | .seq e, X, c, W, G, tg, ast, hm => by
    unfold mI at hm
    refine PI.imp (iter_V (soundE e X c W G ast hm).1) fun τ H R q => ?_
    obtain ⟨ρ, σ, h, sr, hr, p⟩ := q
    unfold evI at p
    refine ⟨ρ, σ, h, sr, hr, (Post.bind p).imp ?_⟩
    intro ρ1 H1 h1 x _ _ ⟨st, hr1, p1⟩ v rv
    obtain ⟨z, e, w⟩ := Post.lift p1
    exact ⟨ρ1, h1, x, z, hr1, rv, e, w ρ1 H1 hr1.step hr1⟩
  | .range1 a, X, c, W, G, tg, ast, hm => by
    unfold mI at hm
    split at hm
    · rename_i x p y pos
      obtain ⟨hm, h4⟩ := and2 hm
      obtain ⟨hm, h3⟩ := and2 hm
      obtain ⟨h1, h2⟩ := and2 hm
      have eN : x = Str.ofString "range" := of_decide_eq_true h2
      subst eN
      refine PI.imp (pi_range1 (G.gl h1) (G.facts.blt _ (by decide +kernel)) (pa_cons (soundE a X c W G y h4).1 pa_nil (starE h3)) (starE h3)) fun τ H R q => ?_
      obtain ⟨ρ, σ, h, sr, hr, p⟩ := q
      unfold evI at p
      refine ⟨ρ, σ, h, sr, hr, (Post.bind p).imp ?_⟩
      intro ρ1 H1 h1 x _ _ ⟨st, hr1, p1⟩ v rv
      split at p1
      · split at p1
        · rename_i j hc
          cases rv
          exact ⟨j, rfl, hc.1, hc.2, p1 ρ1 H1 hr1.step hr1 _ jok_range⟩
        · exact p1.elim
      · exact p1.elim
    · cases hm
  | .range2 a b, X, c, W, G, tg, ast, hm => by
    unfold mI at hm
    split at hm
    · rename_i x p y z pos
      obtain ⟨hm, h6⟩ := and2 hm
      obtain ⟨hm, h5⟩ := and2 hm
      obtain ⟨hm, h4⟩ := and2 hm
      obtain ⟨hm, h3⟩ := and2 hm
      obtain ⟨h1, h2⟩ := and2 hm
      have eN : x = Str.ofString "range" := of_decide_eq_true h2
      subst eN
      refine PI.imp (pi_range2 (G.gl h1) (G.facts.blt _ (by decide +kernel)) (pa_cons (soundE a X c W G y h5).1 (pa_cons (soundE b X c W G z h6).1 pa_nil (starE h4)) (starE h3)) (by rw [starE h3, starE h4]; rfl) (by rw [starE h4]; rfl)) fun τ H R q => ?_
      obtain ⟨ρ, σ, h, sr, hr, p⟩ := q
      unfold evI at p
      refine ⟨ρ, σ, h, sr, hr, (Post.bind p).imp ?_⟩
      intro ρ1 H1 h1 x _ _ ⟨st, hr1, p1⟩ v rv
      refine ⟨ρ1, σ, h1, sr.mono st, hr1, (Post.bind p1).imp ?_⟩
      intro ρ2 H2 h2 y _ _ ⟨st2, hr2, p2⟩ u ru
      split at p2
      · split at p2
        · rename_i i j hc
          cases rv; cases ru
          exact ⟨i, j, rfl, hc, p2 ρ2 H2 hr2.step hr2 _ jok_range⟩
        · exact p2.elim
      · exact p2.elim
    · cases hm
  | .enum e, X, c, W, G, tg, ast, hm => by
    unfold mI at hm
    split at hm
    · rename_i elts kk tpos
      split at hm
      · rename_i x p y pos
        obtain ⟨hm, h4⟩ := and2 hm
        obtain ⟨hm, h3⟩ := and2 hm
        obtain ⟨h1, h2⟩ := and2 hm
        have eN : x = Str.ofString "enumerate" := of_decide_eq_true h2
        subst eN
        refine PI.imp (enum_V (G.gl h1) (G.facts.blt _ (by decide +kernel)) (soundE e X c W G y h4).1 h3) fun τ H R q => ?_
        obtain ⟨ρ, σ, h, sr, hr, p⟩ := q
        unfold evI at p
        refine ⟨ρ, σ, h, sr, hr, (Post.bind p).imp ?_⟩
        intro ρ1 H1 h1 x _ _ ⟨st, hr1, p1⟩ v rv
        obtain ⟨z, e, w⟩ := Post.lift (Post.bind p1)
        obtain ⟨_, _, p2⟩ := w ρ1 H1 hr1.step hr1
        obtain ⟨xs, wn⟩ := z
        cases wn with
        | some n => exact p2.elim
        | none => exact ⟨ρ1, h1, x, xs, hr1, rv, e, fun J j => p2 ρ1 H1 hr1.step hr1 J j⟩
      · cases hm
    · cases hm
end
end
end Fx
end
section
set_option Elab.async false
set_option linter.all false
set_option maxRecDepth 100000
set_option maxHeartbeats 16000000
/-! Fx, part 5f: statements. -/
namespace Fx
open PySem L2 PySem.Spec PyProof.Rows
def PostS (K : PySem.W.Frag) (cn : Nat → Value) (W : WX) (ρ : List Addr) (H : Hp) (r : SRes) (D : Ends) : Prop := match r with
  | .next σ h => ∀ ρ' H' τ, Step ρ H ρ' H' → HR K ρ' H' h → SR K ρ' H' σ τ → D.nx τ H'
  | .ret v h => ∀ ρ' H' w, Step ρ H ρ' H' → HR K ρ' H' h → Rep K ρ' H' v w → D.rt w H'
  | .brk σ h => ∀ ρ' H' τ, Step ρ H ρ' H' → HR K ρ' H' h → SR K ρ' H' σ τ → D.bk τ H'
  | .cont σ h => ∀ ρ' H' τ, Step ρ H ρ' H' → HR K ρ' H' h → SR K ρ' H' σ τ → D.ct τ H'
  | .exc c σ h => ∀ ρ' H' τ, Step ρ H ρ' H' → HR K ρ' H' h → SR K ρ' H' σ τ → W (cn c) none τ H'
  | .stuck => False
def RdS (K : PySem.W.Frag) (cn : Nat → Value) (W : WX) (m : PSt → PHeap → SRes) : TS := fun D τ H => ∃ ρ σ h, SR K ρ H σ τ ∧ HR K ρ H h ∧ PostS K cn W ρ H (m σ h) D
theorem PostS.mono {K : PySem.W.Frag} {cn : Nat → Value} {W : WX} {ρ ρ' : List Addr} {H H' : Hp} {r : SRes} {D : Ends} (p : PostS K cn W ρ H r D) (s : Step ρ H ρ' H') : PostS K cn W ρ' H' r D := by
  cases r with
  | stuck => exact p
  | _ => exact fun ρ2 H2 t q => p ρ2 H2 t (s.trans q)
structure GoodS (cfg : Cfg) (X : Cx) (c : MC) (k : Nat) (fa ea : Nat → Addr) (W : WX) : Prop extends Good cfg X c k fa ea W where
  pass : PassesOwn (model X.prog X.w) X.A X.env X.xe
  stk : X.stack = X.env :: X.outer
  frm : X.env.frame = some X.env.locals
  kind : X.env.scope.kind = .function
theorem GoodS.tr {cfg : Cfg} {X : Cx} {c : MC} {k : Nat} {fa ea : Nat → Addr} {W W' : WX} (G : GoodS cfg X c k fa ea W) {pn : List (Addr × Obj)} {xe : Value → Shared → Prop} (tk : Takes (X.tr pn xe) W') (ps : PassesOwn (model X.prog X.w) X.A X.env xe) :
    GoodS cfg (X.tr pn xe) c k fa ea W' where
  N := G.N
  sc := G.sc
  nd := G.nd
  calm := G.calm
  fn := G.fn
  tk := tk
  room := G.room
  hu := G.hu
  facts := G.facts
  pass := ps
  stk := G.stk
  frm := G.frm
  kind := G.kind
theorem GoodS.suite {cfg : Cfg} {X : Cx} {c : MC} {k : Nat} {fa ea : Nat → Addr} {W : WX} (G : GoodS cfg X c k fa ea W) (a : Addr) (pn : List (Addr × Obj)) :
    GoodS cfg (X.suite a pn) ⟨c.N, c.sc, c.fn, false⟩ k fa ea (fun _ _ _ _ => False) where
  N := G.N
  sc := G.sc
  nd := G.nd
  calm := fun h => nomatch h
  fn := G.fn
  tk := takes0
  room := fun h => nomatch h
  hu := G.hu
  facts := G.facts
  pass := PassesOwn.never
  stk := G.stk
  frm := G.frm
  kind := G.kind
section
variable {X : Cx}
theorem op_augV : ∀ op, PIp X op (rB X.K fun _ => augV op) := by
  intro op pins s σ H v u v' u' Q I r1 r2 ⟨ρ, h, x, y, z, hr, p, q, e, w⟩
  have e : augV op x y = some z := e
  unfold augV at e
  split at e
  · cases e; cases p; cases q
    exact iop_add pins s σ H _ _ _ _ Q I r1 r2 ⟨_, _, rfl, rfl, w.here hr (.int _)⟩
  · cases e; cases p; cases q
    exact iop_sub pins s σ H _ _ _ _ Q I r1 r2 ⟨_, _, rfl, rfl, w.here hr (.int _)⟩
  · split at e
    · cases e; cases p; cases q
      exact iop_add_str pins s σ H _ _ _ _ Q I r1 r2 ⟨_, _, rfl, rfl, by assumption, w.here hr (.str _)⟩
    · cases e
  · cases e
theorem swaps_none {e : Expr} {l : Nat} {env : Env} (h : notComp e = true) : swapsWith e none l env = pure false := by
  cases e <;> first | rfl | (cases h)
theorem swaps_some {e t : Expr} {l : Nat} {env : Env} (h : notComp e = true) : swapsWith e (some t) l env = pure false := by
  cases e <;> first | rfl | (cases h)
theorem stores_none {e t : Expr} {env : Env} (h : (notTup e || isName t) = true) : swappedStores [t] e env = pure none := by
  cases t <;> cases e <;> first | rfl | (cases h)
end

theorem sw_kind {env : Env} {ts vs : List Expr} {kt k2 : Nat} {pt p2 : Pos} {sc : Scope} {r : Option (List Str)} (he : env.scope = sc) (hk : env.scope.kind = .function) (h : swKind sc ts vs = some r) :
    swappedStores [.Tuple ts kt pt] (.Tuple vs k2 p2) env = pure r := by
  have hb : env.blockKind = .function := by unfold Env.blockKind; rw [hk]; rfl
  have ky : ∀ id, env.kindOf id = sc.names.lookup id := fun id => by rw [← he]; rfl
  unfold swKind at h
  show (if (!(ts.length == 2 || ts.length == 3) || vs.length != ts.length || env.blockKind != .function) = true then (pure none : Sem _) else _) = _
  rw [hb]
  by_cases c1 : (!(ts.length == 2 || ts.length == 3) || vs.length != ts.length) = true
  · rw [if_pos c1] at h
    cases h
    rw [if_pos (by rw [c1]; rfl)]
  · rw [if_neg c1] at h
    rw [if_neg (by simpa using c1)]
    simp only at h ⊢
    split at h
    · rename_i c2; cases h; exact if_pos c2
    · rename_i c2
      refine (if_neg c2).trans ?_
      simp only [ky]
      split at h
      · rename_i c3; cases h; exact if_pos c3
      · rename_i c3
        refine (if_neg c3).trans ?_
        split at h
        · rename_i c4; cases h; exact if_pos c4
        · rename_i c4
          refine (if_neg c4).trans ?_
          split at h
          · cases h
          · rename_i c5; cases h; exact if_neg c5
theorem sw_false {elt : Expr} {gs : List Comprehension} {scope : Scope} {pos py : Pos} {y : Str} {l : Nat} {env : Env} (hk : env.scope.kind = .function) (h : ((isLoc env.scope y && (py.line == pos.line)) && !(scope.names.any fun (n, k) => n == y && (k == .local || k == .cell))) = false) :
    swapsWith (.ListComp elt gs scope pos) (some (.Name y py)) l env = pure false := by
  have hb : env.blockKind = .function := by unfold Env.blockKind; rw [hk]; rfl
  have ky : (env.kindOf y == some .local) = isLoc env.scope y := by
    unfold isLoc Env.kindOf
    cases env.scope.names.lookup y with
    | none => rfl
    | some q => cases q <;> rfl
  unfold swapsWith
  simp only [hb, ky, Expr.pos]
  show (pure _ : Sem Bool) = pure false
  exact congrArg pure h
/-- expression readings from a statement's -/
theorem rdE_of {K : PySem.W.Frag} {cn : Nat → Value} {W : WX} {m : PSt → PHeap → Res PV} {ρ : List Addr} {H : Hp} {σ : PSt} {τ : L2.St} {h : PHeap} {D : Ends} {f : PV → PHeap → SRes} {Q : VK}
    (sr : SR K ρ H σ τ) (hr : HR K ρ H h)
    (p : PostS K cn W ρ H (match m σ h with
      | .ok v h1 => f v h1
      | .exc c h1 => .exc c σ h1
      | .stuck => .stuck) D)
    (k : ∀ ρ1 H1 h1 x v, Step ρ H ρ1 H1 → HR K ρ1 H1 h1 → SR K ρ1 H1 σ τ → Rep K ρ1 H1 x v → PostS K cn W ρ1 H1 (f x h1) D → Q v H1) : RdE K cn W m τ H Q := by
  refine ⟨ρ, σ, h, sr, hr, ?_⟩
  cases e : m σ h with
  | ok x h1 =>
    rw [e] at p
    exact fun ρ1 H1 st hr1 v rv => k ρ1 H1 h1 x v st hr1 (sr.mono st) rv (p.mono st)
  | exc c h1 =>
    rw [e] at p
    exact fun ρ1 H1 st hr1 => p ρ1 H1 τ st hr1 (sr.mono st)
  | stuck => rw [e] at p; exact p
theorem rdT_of {K : PySem.W.Frag} {cn : Nat → Value} {W : WX} {m : PSt → PHeap → Res Bool} {ρ : List Addr} {H : Hp} {σ : PSt} {τ : L2.St} {h : PHeap} {D : Ends} {f g : PHeap → SRes} {Q : Bool → Hp → Prop}
    (sr : SR K ρ H σ τ) (hr : HR K ρ H h)
    (p : PostS K cn W ρ H (match m σ h with
      | .ok true h1 => f h1
      | .ok false h1 => g h1
      | .exc c h1 => .exc c σ h1
      | .stuck => .stuck) D)
    (k : ∀ ρ1 H1 h1 b, Step ρ H ρ1 H1 → HR K ρ1 H1 h1 → SR K ρ1 H1 σ τ → PostS K cn W ρ1 H1 (if b = true then f h1 else g h1) D → Q b H1) : RdT K cn W m τ H Q := by
  refine ⟨ρ, σ, h, sr, hr, ?_⟩
  cases e : m σ h with
  | ok b h1 =>
    rw [e] at p
    refine fun ρ1 H1 st hr1 => k ρ1 H1 h1 b st hr1 (sr.mono st) ?_
    cases b with
    | true => exact p.mono st
    | false => exact p.mono st
  | exc c h1 =>
    rw [e] at p
    exact fun ρ1 H1 st hr1 => p ρ1 H1 τ st hr1 (sr.mono st)
  | stuck => rw [e] at p; exact p
theorem calm_of {K : PySem.W.Frag} {cn : Nat → Value} {W W' : WX} {ρ : List Addr} {H : Hp} {r : SRes} {D : Ends} (p : PostS K cn W ρ H r.calm D) : PostS K cn W' ρ H r D := by
  cases r with
  | exc c σ h => exact p.elim
  | _ => exact p

/-- a for loop -/
theorem forL_of {K : PySem.W.Frag} {cn : Nat → Value} {W : WX} {J : It} {items : List PV} {ok : PHeap → Bool} {tg : ITg} {body : PSt → PHeap → SRes} {σ : PSt} {τ : L2.St} {ρ1 : List Addr} {H1 : Hp} {D : Ends} {h1 : PHeap}
    (jo : JOk K ρ1 H1 J items ok) (sr : SR K ρ1 H1 σ τ) (hr : HR K ρ1 H1 h1) (p : PostS K cn W ρ1 H1 (forL (bindT tg) body ok items σ h1) D) :
    ∃ Wf : Nat → Nat → L2.St → Hp → Prop, (∃ m, Wf 0 m τ H1) ∧ ∀ i m τ H, Wf i m τ H →
      (J.stop i H ∧ D.nx τ H) ∨ (J.go i H ∧ ∃ N : L2.St → Hp → Prop, (∀ τ' H', N τ' H' → ∃ m', m' < m ∧ Wf (i + 1) m' τ' H') ∧ ∀ x H', J.yld i H x H' → gT K tg x τ H' fun τ2 H2 => RdS K cn W body { D with nx := N, ct := N, bk := D.nx } τ2 H2) := by
  let Wf : Nat → Nat → L2.St → Hp → Prop := fun i m τ H => m = items.length - i ∧ i ≤ items.length ∧ ∃ ρ' σ' h', Step ρ1 H1 ρ' H ∧ SR K ρ' H σ' τ ∧ HR K ρ' H h' ∧ PostS K cn W ρ' H (forL (bindT tg) body ok (items.drop i) σ' h') D
  refine ⟨Wf, ⟨items.length, by simp, Nat.zero_le _, ρ1, σ, h1, hr.step, sr, hr, by rw [List.drop_zero]; exact p⟩, ?_⟩
  rintro i m τ H ⟨hm, hi, ρ', σ', h', st, sr', hr', q⟩
  have okk : ok h' = true := by
    by_cases ok1 : ok h' = true
    · exact ok1
    · cases hd : items.drop i with
      | nil => rw [hd] at q; unfold forL at q; rw [if_neg ok1] at q; exact q.elim
      | cons x r => rw [hd] at q; unfold forL at q; rw [if_neg ok1] at q; exact q.elim
  obtain ⟨j1, j2⟩ := jo ρ' H h' st hr' okk
  by_cases hlt : i < items.length
  · right
    have hd : items.drop i = items[i] :: items.drop (i + 1) := List.drop_eq_getElem_cons hlt
    obtain ⟨jg, jy⟩ := j2 i items[i] (List.getElem?_eq_getElem hlt)
    refine ⟨jg, Wf (i + 1) (m - 1), fun H' τ' w => ⟨m - 1, by omega, w⟩, ?_⟩
    intro v H2 hy
    obtain ⟨sm, rv⟩ := jy v H2 hy
    have s2 : Step ρ' H ρ' H2 := .same hr'.dom sm
    have hr2 := hr'.same sm
    rw [hd] at q
    unfold forL at q
    rw [if_pos okk] at q
    cases eb : bindT tg items[i] σ' with
    | none => rw [eb] at q; exact q.elim
    | some σ1 =>
      rw [eb] at q
      refine bindT_of eb rv (sr'.mono s2) fun τ' srn => ?_
      refine ⟨ρ', σ1, h', srn, hr2, ?_⟩
      have q := PostS.mono q s2
      dsimp only at q
      cases er : body σ1 h' with
      | next σ2 h2 => rw [er] at q; exact fun ρ3 H3 τ3 st3 hr3 sr3 => ⟨by omega, by omega, ρ3, σ2, h2, (st.trans s2).trans st3, sr3, hr3, PostS.mono q st3⟩
      | cont σ2 h2 => rw [er] at q; exact fun ρ3 H3 τ3 st3 hr3 sr3 => ⟨by omega, by omega, ρ3, σ2, h2, (st.trans s2).trans st3, sr3, hr3, PostS.mono q st3⟩
      | brk σ2 h2 => rw [er] at q; exact q
      | ret v h2 => rw [er] at q; exact q
      | exc c σ2 h2 => rw [er] at q; exact q
      | stuck => rw [er] at q; exact q
  · left
    have ei : i = items.length := by omega
    have hd : items.drop i = [] := List.drop_eq_nil_of_le (by omega)
    rw [hd] at q
    unfold forL at q
    rw [if_pos okk] at q
    exact ⟨by rw [ei]; exact j1, q ρ' H τ hr'.step hr' sr'⟩
/-- a while loop -/
theorem whileL_of {K : PySem.W.Frag} {cn : Nat → Value} {W : WX} {test : PSt → PHeap → Res Bool} {body : PSt → PHeap → SRes} {σ : PSt} {τ : L2.St} {ρ1 : List Addr} {H1 : Hp} {D : Ends} {h1 : PHeap} {n : Nat}
    (sr : SR K ρ1 H1 σ τ) (hr : HR K ρ1 H1 h1) (p : PostS K cn W ρ1 H1 (whileL test body n σ h1) D) : tWhile (RdT K cn W test) (RdS K cn W body) D τ H1 := by
  refine ⟨fun m τ H => ∃ ρ' σ' h', SR K ρ' H σ' τ ∧ HR K ρ' H h' ∧ PostS K cn W ρ' H (whileL test body m σ' h') D, ⟨n, ρ1, σ, h1, sr, hr, p⟩, ?_⟩
  rintro m τ H ⟨ρ', σ', h', sr', hr', q⟩
  cases m with
  | zero => exact q.elim
  | succ m =>
    unfold whileL at q
    refine ⟨ρ', σ', h', sr', hr', ?_⟩
    cases e : test σ' h' with
    | stuck => rw [e] at q; exact q.elim
    | exc c h2 => rw [e] at q; exact fun ρ2 H2 st hr2 => q ρ2 H2 τ st hr2 (sr'.mono st)
    | ok b h2 =>
      rw [e] at q
      intro ρ2 H2 st hr2
      cases b with
      | false =>
        refine iteF ?_
        exact q ρ2 H2 τ st hr2 (sr'.mono st)
      | true =>
        refine iteT ?_
        refine ⟨_, fun σ4 H4 w => ⟨m, by omega, w⟩, ρ2, σ', h2, sr'.mono st, hr2, ?_⟩
        have q := PostS.mono q st
        dsimp only at q
        cases er : body σ' h2 with
        | next σ2 h3 => rw [er] at q; exact fun ρ3 H3 τ3 st3 hr3 sr3 => ⟨ρ3, σ2, h3, sr3, hr3, PostS.mono q st3⟩
        | cont σ2 h3 => rw [er] at q; exact fun ρ3 H3 τ3 st3 hr3 sr3 => ⟨ρ3, σ2, h3, sr3, hr3, PostS.mono q st3⟩
        | brk σ2 h3 => rw [er] at q; exact q
        | ret v h3 => rw [er] at q; exact q
        | exc c σ2 h3 => rw [er] at q; exact q
        | stuck => rw [er] at q; exact q
/-- the clauses -/
def hdl (K : PySem.W.Frag) (cfg : Cfg) (k : Nat) (ea : Nat → Addr) : IHs → List (Value × (Addr → Value → Option Addr → TS))
  | .nil => []
  | .cons c s r => (.ref (ea c), fun _ _ _ => RdS K (cnE ea) (fun _ _ _ _ => False) (evSs cfg (run cfg k) s)) :: hdl K cfg k ea r
theorem many_of {cfg : Cfg} {P : Program} {w : World} {K : PySem.W.Frag} {mg : Str → Option Value} {base : Heap} {k : Nat} {fa ea : Nat → Addr} {W : WX} {D : Ends} (F : Facts cfg P w K mg base k fa ea) {c : MC} {x : Nat} : ∀ {hs : IHs} {hds : List ExceptHandler} {ρ : List Addr} {H : Hp} {σ : PSt} {τ : L2.St} {h : PHeap},
    mH cfg c hs hds = true → SR K ρ H σ τ → HR K ρ H h → PostS K (cnE ea) W ρ H (evH cfg (run cfg k) x hs σ h) D → wMany K W D (hdl K cfg k ea hs) (cnE ea x) none τ H
  | .nil, hds, ρ, H, σ, τ, h, hm, sr, hr, p => by
    unfold evH at p
    exact p ρ H τ hr.step hr sr
  | .cons c' s r, hds, ρ, H, σ, τ, h, hm, sr, hr, p => by
    unfold evH at p
    split at p
    · rename_i hx
      cases hds with
      | nil => exact nomatch (show false = true from hm)
      | cons hd hds =>
        unfold mH at hm
        split at hm
        · rename_i n np b su pos' hs' heq
          cases heq
          obtain ⟨hm, h5⟩ := and2 hm
          obtain ⟨hm, h4⟩ := and2 hm
          obtain ⟨hm, h3⟩ := and2 hm
          have hc' : (cfg.excs c').isSome = true := by rw [of_decide_eq_true h3]; rfl
          refine ⟨cfg.sub x c', F.sub x c' hx hc', fun e a _ => ?_, fun e => ?_⟩
          · rw [if_pos e] at p
            exact ⟨ρ, σ, h, sr, hr, calm_of p⟩
          · rw [if_neg (by rw [e]; decide)] at p
            exact many_of F h5 sr hr p
        · cases hm
    · exact p.elim
section
variable {cfg : Cfg} {k : Nat} {fa ea : Nat → Addr}
mutual
theorem soundS : ∀ (s : IS) (X : Cx) (c : MC) (W : WX), GoodS cfg X c k fa ea W → ∀ ast, mS cfg c s ast = true → PS X ast (RdS X.K (cnE ea) W (evS cfg (run cfg k) s))
  | .expr a, X, c, W, G, ast, hm => by
    unfold mS at hm
    split at hm
    · rename_i e pos
      obtain ⟨h1, h2⟩ := and2 hm
      refine PS.imp (ps_expr (soundE a X c W G.toGood e h2).1 (swaps_none h1)) fun D τ H q => ?_
      obtain ⟨ρ, σ, h, sr, hr, p⟩ := q
      unfold evS at p
      exact rdE_of (f := fun _ h1 => .next σ h1) sr hr p fun ρ1 H1 h1 x v st hr1 sr1 rv p1 => p1 ρ1 H1 τ hr1.step hr1 sr1
    · cases hm
  | .ret a, X, c, W, G, ast, hm => by
    unfold mS at hm
    split at hm
    · rename_i e pos
      refine PS.imp (ps_ret (soundE a X c W G.toGood e hm).1) fun D τ H q => ?_
      obtain ⟨ρ, σ, h, sr, hr, p⟩ := q
      unfold evS at p
      exact rdE_of (f := fun v h1 => .ret v h1) sr hr p fun ρ1 H1 h1 x v st hr1 sr1 rv p1 => p1 ρ1 H1 v hr1.step hr1 rv
    · cases hm
  | .retN, X, c, W, G, ast, hm => by
    unfold mS at hm
    split at hm
    · rename_i pos
      refine PS.imp ps_retN fun D τ H q => ?_
      obtain ⟨ρ, σ, h, sr, hr, p⟩ := q
      exact p ρ H _ hr.step hr .non
    · cases hm
  | .asg t a, X, c, W, G, ast, hm => by
    unfold mS at hm
    split at hm
    · rename_i tg e pos
      obtain ⟨hm, h4⟩ := and2 hm
      obtain ⟨hm, h3⟩ := and2 hm
      obtain ⟨h1, h2⟩ := and2 hm
      have key : ∀ D τ H, RdS X.K (cnE ea) W (evS cfg (run cfg k) (.asg t a)) D τ H → tAsg (RdE X.K (cnE ea) W (evE cfg (run cfg k) a)) (gT X.K t) D τ H := fun D τ H q => by
        obtain ⟨ρ, σ, h, sr, hr, p⟩ := q
        unfold evS at p
        refine rdE_of (f := fun v h1 => match bindT t v σ with
          | some σ1 => .next σ1 h1
          | none => .stuck) sr hr p fun ρ1 H1 h1 x v st hr1 sr1 rv p1 => ?_
        cases eb : bindT t x σ with
        | none => rw [eb] at p1; exact p1.elim
        | some σ1 =>
          rw [eb] at p1
          exact bindT_of eb rv sr1 fun τ' sr' => p1 ρ1 H1 τ' hr1.step hr1 sr'
      by_cases nc : notComp e = true
      · refine PS.imp (ps_asg (soundE a X c W G.toGood e h3).1 (pg_T G.toGood h1) (swaps_some nc) (stores_none h2) ?_) key
        unfold mT at h1
        split at h1
        · rfl
        · rfl
        · cases h1
      · cases tg with
        | Name y py =>
          cases t with
          | tup is => exact nomatch (show false = true from h1)
          | name i =>
            obtain ⟨g1, g2⟩ := and2 (show (decide (c.N[i]? = some y) && stoB c y) = true from h1)
            obtain ⟨s1, s2⟩ := G.sto g2
            cases e with
            | ListComp el gens scope cpos =>
              by_cases sw : ((isLoc X.env.scope y && (py.line == cpos.line)) && !(scope.names.any fun (n, k) => n == y && (k == .local || k == .cell))) = true
              · obtain ⟨sw, sw3⟩ := and2 sw
                obtain ⟨sw1, sw2⟩ := and2 sw
                have hyl : X.env.scope.names.lookup y = some .local := G.isl (by rw [← G.sc]; exact sw1)
                have sw3' : (scope.names.any fun (n, k) => n == y && (k == .local || k == .cell)) = false := by simpa using sw3
                cases a with
                | comp elt tg it ifs own =>
                  unfold mE at h3
                  split at h3
                  · rename_i el' t i' fs scope' pos' heq
                    cases heq
                    obtain ⟨hm, h8⟩ := and2 h3
                    obtain ⟨hm, h7⟩ := and2 hm
                    obtain ⟨hm, h6⟩ := and2 hm
                    obtain ⟨hm, h5⟩ := and2 hm
                    obtain ⟨hm, h4⟩ := and2 hm
                    obtain ⟨hm, h3⟩ := and2 hm
                    obtain ⟨h1', h2'⟩ := and2 hm
                    refine PS.imp (ps_setLc (own := own) (g := gT X.K tg) (tt := RdT X.K (cnE ea) (fun _ _ _ _ => False) (evT cfg (run cfg k) ifs)) (te := RdE X.K (cnE ea) (fun _ _ _ _ => False) (evE cfg (run cfg k) elt)) (G.calm h1') G.nd (by rw [G.N]; exact of_decide_eq_true g1) hyl
                      (sw_true G.kind hyl sw2 sw3') (soundI it X c W G.toGood t i' h2') (by rw [G.N, G.sc]; exact blkOk_by h4)
                      (fun s H C cl fp => pg_T (G.toGood.blk scope s H C cl fp) h6) (fun s H C cl fp => soundF ifs _ _ _ (G.toGood.blk scope s H C cl fp) fs h7) (fun s H C cl fp => (soundE elt _ _ _ (G.toGood.blk scope s H C cl fp) el h8).1) (set_of h3)) fun D τ H q => ?_
                    exact lc_of h5 (key D τ H q)
                  · cases h3
                | _ => exact absurd h3 (by unfold mE; simp)
              · exact PS.imp (ps_set G.nd (by rw [G.N]; exact of_decide_eq_true g1) s1 (soundE a X c W G.toGood _ h3).1 (sw_false G.kind (Bool.eq_false_iff.mpr sw)) s2) key
            | _ => first | exact absurd rfl nc | exact nomatch (show false = true from h4)
        | _ => exact absurd h4 nc
    · cases hm
  | .par i j a b, X, c, W, G, ast, hm => by
    unfold mS at hm
    split at hm
    · rename_i x px y py kt pt e f k2 pt2 pos
      obtain ⟨hm, h11⟩ := and2 hm
      obtain ⟨hm, h10⟩ := and2 hm
      obtain ⟨hm, h9⟩ := and2 hm
      obtain ⟨hm, h8⟩ := and2 hm
      obtain ⟨hm, h7⟩ := and2 hm
      obtain ⟨hm, h6⟩ := and2 hm
      obtain ⟨hm, h5⟩ := and2 hm
      obtain ⟨hm, h4⟩ := and2 hm
      obtain ⟨hm, h3⟩ := and2 hm
      obtain ⟨h1, h2⟩ := and2 hm
      have hij : i ≠ j := of_decide_eq_true h2
      have ms : mEs cfg c (.cons a (.cons b .nil)) [e, f] = true := by
        show (notStar e && mE cfg c a e && (notStar f && mE cfg c b f && true)) = true
        rw [h7, h8, h9, h10]; rfl
      have hA := soundEs (.cons a (.cons b .nil)) X c W G.toGood [e, f] ms
      have key : ∀ D τ H, RdS X.K (cnE ea) W (evS cfg (run cfg k) (.par i j a b)) D τ H → RdA X.K (cnE ea) W (evEs cfg (run cfg k) (.cons a (.cons b .nil))) τ H fun vs H1 => ∃ v w, vs = [v, w] ∧ ∀ H2, (∀ a o, H1 a = some o → H2 a = some o) → D.nx ((τ.set i (some v)).set j (some w)) H2 := fun D τ H q => by
        obtain ⟨ρ, σ, h, sr, hr, p⟩ := q
        unfold evS at p
        refine ⟨ρ, σ, h, sr, hr, ?_⟩
        have ee : evEs cfg (run cfg k) (.cons a (.cons b .nil)) σ h = (evE cfg (run cfg k) a σ h).bind fun x h1 => (evE cfg (run cfg k) b σ h1).bind fun y h2 => .ok [x, y] h2 := by
          unfold evEs
          congr 1; funext x h1
          unfold evEs
          rw [bind_assoc]
          congr 1
        rw [ee]
        cases ea' : evE cfg (run cfg k) a σ h with
        | stuck => rw [ea'] at p; exact p.elim
        | exc c h1 => rw [ea'] at p; exact fun ρ1 H1 st hr1 => p ρ1 H1 τ st hr1 (sr.mono st)
        | ok x h1 =>
          rw [ea'] at p
          cases eb' : evE cfg (run cfg k) b σ h1 with
          | stuck => simp only [Res.bind, eb'] at p; exact p.elim
          | exc c h2 => simp only [Res.bind, eb'] at p ⊢; exact fun ρ1 H1 st hr1 => p ρ1 H1 τ st hr1 (sr.mono st)
          | ok y h2 =>
            simp only [Res.bind, eb'] at p ⊢
            intro ρ1 H1 st hr1 vs rvs
            cases rvs with
            | cons r1 rvs =>
              cases rvs with
              | cons r2 rvs =>
                cases rvs
                exact ⟨_, _, rfl, fun H2 sm => p ρ1 H2 _ (st.trans (.same hr1.dom sm)) (hr1.same sm) ((((sr.mono st).set r1 i).set r2 j).mono (.same hr1.dom sm))⟩
      split at h11
      · rename_i hsw
        refine PS.imp (ps_asg (pe_tup hA) (pg_tup (t := gAll [i, j]) (n := 2) (G.calm h1) (pgs_names G.toGood (is := [i, j]) (by unfold mNames; simp [h3, h5]; unfold mNames; simp [h4, h6]; unfold mNames; rfl)) rfl rfl) rfl (sw_kind G.sc G.kind hsw) rfl) fun D τ H q => ?_
        obtain ⟨ρ, σ, h, sr, hr, p⟩ := key D τ H q
        refine ⟨ρ, σ, h, sr, hr, Post.imp p ?_⟩
        intro _ H1 _ _ _ _ p vs rvs
        obtain ⟨v, w, e1, e2⟩ := p vs rvs
        subst e1
        refine ⟨(by decide : 2 ≤ sizeLine), fun a na => ⟨a, [v, w], rfl, .inl (.inl upd_same), rfl, ?_⟩⟩
        exact ⟨v, [w], rfl, w, [], rfl, rfl, e2 _ fun b o e => by rw [upd_ne (ne_of_none e na)]; exact e⟩
      · rename_i ns hsw
        obtain ⟨h11, h14⟩ := and2 h11
        obtain ⟨h12, h13⟩ := and2 h11
        have en : ns = [x, y] := of_decide_eq_true h12
        subst en
        refine PS.imp (ps_par (G.calm h1) G.nd (by rw [G.N]; exact of_decide_eq_true h3) (by rw [G.N]; exact of_decide_eq_true h4) hij (G.isl h13) (G.isl h14) hA (sw_kind G.sc G.kind hsw) rfl) fun D τ H q => ?_
        obtain ⟨ρ, σ, h, sr, hr, p⟩ := key D τ H q
        refine ⟨ρ, σ, h, sr, hr, Post.imp p ?_⟩
        intro _ _ _ _ _ _ p vs rvs
        obtain ⟨v, w, e1, e2⟩ := p vs rvs
        exact ⟨v, w, e1, e2 _ fun _ _ e => e⟩
      · cases h11
    · cases hm
  | .aug op i a, X, c, W, G, ast, hm => by
    unfold mS at hm
    split at hm
    · rename_i x xp o e pos
      obtain ⟨hm, h4⟩ := and2 hm
      obtain ⟨hm, h3⟩ := and2 hm
      obtain ⟨h1, h2⟩ := and2 hm
      have eo : op = o := of_decide_eq_true h1
      subst eo
      obtain ⟨s1, s2⟩ := G.sto h3
      refine PS.imp (ps_aug G.nd (by rw [G.N]; exact of_decide_eq_true h2) s1 (soundE a X c W G.toGood e h4).1 (op_augV op) s2) fun D τ H q => ?_
      obtain ⟨ρ, σ, h, sr, hr, p⟩ := q
      unfold evS at p
      split at p
      · rename_i x0 e0
        obtain ⟨v0, e1, r0⟩ := sr.at_ i x0 e0
        refine ⟨v0, e1, rdE_of (f := fun y h1 => match augV op x0 y with
          | some z => .next (σ.set i (some z)) h1
          | none => .stuck) sr hr p fun ρ1 H1 h1 y v st hr1 sr1 rv p1 => ?_⟩
        cases eb : augV op x0 y with
        | none => rw [eb] at p1; exact p1.elim
        | some z =>
          rw [eb] at p1
          exact ⟨ρ1, h1, x0, y, z, hr1, r0.mono st, rv, eb, fun H' w s' hr' r' => p1 ρ1 H' _ s' hr' ((sr1.mono s').set r' i)⟩
      · exact p.elim
    · cases hm
  | .ifS t a b, X, c, W, G, ast, hm => by
    unfold mS at hm
    split at hm
    · rename_i e x y pos
      obtain ⟨hm, h4⟩ := and2 hm
      obtain ⟨hm, h3⟩ := and2 hm
      obtain ⟨h1, h2⟩ := and2 hm
      refine PS.imp (ps_if ((soundE t X c W G.toGood e h2).2 h1) (soundSs a X c W G x h3) (soundSs b X c W G y h4)) fun D τ H q => ?_
      obtain ⟨ρ, σ, h, sr, hr, p⟩ := q
      unfold evS at p
      refine rdT_of (m := fun σ h => truR (evE cfg (run cfg k) t σ h)) (f := fun h1 => evSs cfg (run cfg k) a σ h1) (g := fun h1 => evSs cfg (run cfg k) b σ h1) sr hr p fun ρ1 H1 h1 bb st hr1 sr1 p1 => ?_
      cases bb with
      | true => exact ⟨ρ1, σ, h1, sr1, hr1, p1⟩
      | false => exact ⟨ρ1, σ, h1, sr1, hr1, p1⟩
    · cases hm
  | .forS t it body, X, c, W, G, ast, hm => by
    unfold mS at hm
    split at hm
    · rename_i tg i b pos
      obtain ⟨hm, h5⟩ := and2 hm
      obtain ⟨hm, h4⟩ := and2 hm
      obtain ⟨hm, h3⟩ := and2 hm
      obtain ⟨h1, h2⟩ := and2 hm
      refine PS.imp (ps_for G.pass (G.calm h1) (soundI it X c W G.toGood tg i h2) (pg_T G.toGood h4) (soundSs body X c W G b h5) (set_of h3)) fun D τ H q => ?_
      obtain ⟨ρ, σ, h, sr, hr, p⟩ := q
      unfold evS at p
      refine ⟨ρ, σ, h, sr, hr, ?_⟩
      cases e : evI cfg (run cfg k) it σ h with
      | stuck => rw [e] at p; exact p.elim
      | exc x h1 => rw [e] at p; exact fun ρ1 H1 st hr1 => p ρ1 H1 τ st hr1 (sr.mono st)
      | ok w h1 =>
        rw [e] at p
        intro ρ1 H1 st hr1 J jo
        exact forL_of jo (sr.mono st) hr1 (PostS.mono p st)
    · cases hm
  | .whileS t body, X, c, W, G, ast, hm => by
    unfold mS at hm
    split at hm
    · rename_i e b pos
      obtain ⟨hm, h3⟩ := and2 hm
      obtain ⟨h1, h2⟩ := and2 hm
      refine PS.imp (ps_while G.pass ((soundE t X c W G.toGood e h2).2 h1) (soundSs body X c W G b h3)) fun D τ H q => ?_
      obtain ⟨ρ, σ, h, sr, hr, p⟩ := q
      unfold evS at p
      exact whileL_of sr hr p
    · cases hm
  | .raise x msg, X, c, W, G, ast, hm => by
    unfold mS at hm
    split at hm
    · rename_i n np m mk mp cp pos
      obtain ⟨hm, h5⟩ := and2 hm
      obtain ⟨hm, h4⟩ := and2 hm
      obtain ⟨hm, h3⟩ := and2 hm
      obtain ⟨h1, h2⟩ := and2 hm
      obtain ⟨d1, _, _⟩ := notD_of h3
      obtain ⟨f1, f2, f3, f4, f5⟩ := G.facts.excs x n (of_decide_eq_true h4)
      refine PS.imp (ps_raise (G.calm h1) G.tk (pmk_own F.excBase_ValueError f3 f1 f2 (raises_own f4 f5) (G.gl h2) d1)) fun D τ H q => ?_
      obtain ⟨ρ, σ, h, sr, hr, p⟩ := q
      exact p ρ H τ hr.step hr sr
    · cases hm
  | .tryS body hs, X, c, W, G, ast, hm => by
    unfold mS at hm
    split at hm
    · rename_i b hds pos
      obtain ⟨hm, h3⟩ := and2 hm
      obtain ⟨h1, h2⟩ := and2 hm
      cases hds with
      | nil => cases h1
      | cons hd hds =>
        refine PS.imp (ps_try_many (tb := fun W' => RdS X.K (cnE ea) W' (evSs cfg (run cfg k) body)) (l := hdl X.K cfg k ea hs) G.stk G.frm G.tk (fun W' pn xe tk ps => soundSs body (X.tr pn xe) c W' (G.tr tk ps) b h2) (soundH hs X c W G (hd :: hds) h3)) fun D τ H q => ?_
        obtain ⟨ρ, σ, h, sr, hr, p⟩ := q
        unfold evS at p
        refine ⟨ρ, σ, h, sr, hr, ?_⟩
        cases e : evSs cfg (run cfg k) body σ h with
        | exc x σ1 h1 =>
          rw [e] at p
          exact fun ρ1 H1 τ1 st hr1 sr1 => many_of G.facts h3 sr1 hr1 (PostS.mono p st)
        | next _ _ => rw [e] at p; exact p
        | ret _ _ => rw [e] at p; exact p
        | brk _ _ => rw [e] at p; exact p
        | cont _ _ => rw [e] at p; exact p
        | stuck => rw [e] at p; exact p
    · cases hm
  | .pass, X, c, W, G, ast, hm => by
    unfold mS at hm
    split at hm
    · exact PS.imp ps_pass fun D τ H ⟨ρ, σ, h, sr, hr, p⟩ => p ρ H τ hr.step hr sr
    · cases hm
  | .brk, X, c, W, G, ast, hm => by
    unfold mS at hm
    split at hm
    · exact PS.imp ps_break fun D τ H ⟨ρ, σ, h, sr, hr, p⟩ => p ρ H τ hr.step hr sr
    · cases hm
  | .cont, X, c, W, G, ast, hm => by
    unfold mS at hm
    split at hm
    · exact PS.imp ps_continue fun D τ H ⟨ρ, σ, h, sr, hr, p⟩ => p ρ H τ hr.step hr sr
    · cases hm
theorem soundSs : ∀ (ss : ISs) (X : Cx) (c : MC) (W : WX), GoodS cfg X c k fa ea W → ∀ asts, mSs cfg c ss asts = true → PSs X asts (RdS X.K (cnE ea) W (evSs cfg (run cfg k) ss))
  | .nil, X, c, W, G, asts, hm => by
    cases asts with
    | cons a r => exact nomatch (show false = true from hm)
    | nil => exact PSs.imp pss_nil fun D τ H ⟨ρ, σ, h, sr, hr, p⟩ => p ρ H τ hr.step hr sr
  | .cons s r, X, c, W, G, asts, hm => by
    cases asts with
    | nil => exact nomatch (show false = true from hm)
    | cons a as =>
      obtain ⟨h1, h2⟩ := and2 (show (mS cfg c s a && mSs cfg c r as) = true from hm)
      refine PSs.imp (pss_cons (soundS s X c W G a h1) (soundSs r X c W G as h2)) fun D τ H q => ?_
      obtain ⟨ρ, σ, h, sr, hr, p⟩ := q
      unfold evSs at p
      refine ⟨ρ, σ, h, sr, hr, ?_⟩
      cases e : evS cfg (run cfg k) s σ h with
      | next σ1 h1 =>
        rw [e] at p
        exact fun ρ1 H1 τ1 st hr1 sr1 => ⟨ρ1, σ1, h1, sr1, hr1, PostS.mono p st⟩
      | exc _ _ _ => rw [e] at p; exact p
      | ret _ _ => rw [e] at p; exact p
      | brk _ _ => rw [e] at p; exact p
      | cont _ _ => rw [e] at p; exact p
      | stuck => rw [e] at p; exact p
theorem soundH : ∀ (hs : IHs) (X : Cx) (c : MC) (W : WX), GoodS cfg X c k fa ea W → ∀ hds, mH cfg c hs hds = true → HdsOk X hds (hdl X.K cfg k ea hs)
  | .nil, X, c, W, G, hds, hm => by
    cases hds with
    | cons a r => exact nomatch (show false = true from hm)
    | nil => exact .nil
  | .cons x s r, X, c, W, G, hds, hm => by
    unfold mH at hm
    split at hm
    · rename_i n np b su pos' hs'
      obtain ⟨hm, h5⟩ := and2 hm
      obtain ⟨hm, h4⟩ := and2 hm
      obtain ⟨hm, h3⟩ := and2 hm
      obtain ⟨h1, h2⟩ := and2 hm
      obtain ⟨d1, _, _⟩ := notD_of h2
      obtain ⟨f1, _⟩ := G.facts.excs x n (of_decide_eq_true h3)
      exact .cons ⟨G.gl h1, d1, .inl f1⟩ (fun a oe cls d pn _ _ => soundSs s (X.suite a ((a, oe) :: pn)) _ _ (G.suite a _) (b :: su) h4) (soundH r X c W G hs' h5)
    · cases hm
end
end
end Fx
end
section
set_option Elab.async false
set_option linter.all false
set_option maxRecDepth 100000
set_option maxHeartbeats 16000000
/-! Fx, part 5g: functions. -/
namespace Fx
open PySem L2 PySem.Spec PyProof.Rows
mutual
theorem old1 {K : PySem.W.Frag} {ρ e : List Addr} {H0 H : Hp} : ∀ {x : PV} {v0 v : V}, Rep K ρ H0 x v0 → Rep K (ρ ++ e) H x v → Rep K ρ H x v
  | _, _, _, .non, .non => .non
  | _, _, _, .bl _, .bl b => .bl b
  | _, _, _, .int _, .int i => .int i
  | _, _, _, .str _, .str x => .str x
  | .tup xs, _, _, .tup _ r0, .tup q r => .tup (by
      rcases q with ⟨n, e⟩ | q
      · exact .inl ⟨fun z => n (List.mem_append_left _ z), e⟩
      · exact .inr q) (olds r0 r)
  | .lst xs, _, _, .lst _ _ r0, .lst n q r => .lst (fun z => n (List.mem_append_left _ z)) q (olds r0 r)
  | _, _, _, .scr _, .scr q => .scr (by
      rcases q with ⟨n, e⟩ | q
      · exact .inl ⟨fun z => n (List.mem_append_left _ z), e⟩
      · exact .inr q)
  | .ref i, _, _, .ref q0, .ref q => .ref (by
      rw [List.getElem?_append_left (List.getElem?_eq_some_iff.mp q0).1] at q
      exact q)
theorem olds {K : PySem.W.Frag} {ρ e : List Addr} {H0 H : Hp} : ∀ {x : List PV} {v0 v : List V}, Reps K ρ H0 x v0 → Reps K (ρ ++ e) H x v → Reps K ρ H x v
  | _, _, _, .nil, .nil => .nil
  | x :: xs, _, _, .cons r0 t0, .cons r t => .cons (old1 r0 r) (olds t0 t)
end
mutual
theorem pure_of {K : PySem.W.Frag} {ρ e : List Addr} {H : Hp} : ∀ {x : PV} {v : V}, PV.pure x = true → Rep K (ρ ++ e) H x v → Rep K ρ H x v
  | _, _, _, .non => .non
  | _, _, _, .bl b => .bl b
  | _, _, _, .int i => .int i
  | _, _, _, .str x => .str x
  | .tup xs, _, p, .tup q r => .tup (by
      rcases q with ⟨n, e⟩ | q
      · exact .inl ⟨fun z => n (List.mem_append_left _ z), e⟩
      · exact .inr q) (pures_of (by simpa [PV.pure] using p) r)
  | .lst xs, _, p, .lst n q r => .lst (fun z => n (List.mem_append_left _ z)) q (pures_of (by simpa [PV.pure] using p) r)
  | _, _, _, .scr q => .scr (by
      rcases q with ⟨n, e⟩ | q
      · exact .inl ⟨fun z => n (List.mem_append_left _ z), e⟩
      · exact .inr q)
  | .ref i, _, p, .ref q => by cases p
theorem pures_of {K : PySem.W.Frag} {ρ e : List Addr} {H : Hp} : ∀ {x : List PV} {v : List V}, PV.pures x = true → Reps K (ρ ++ e) H x v → Reps K ρ H x v
  | _, _, _, .nil => .nil
  | x :: xs, _, p, .cons r t => by
    simp only [PV.pures, Bool.and_eq_true] at p
    exact .cons (pure_of p.1 r) (pures_of p.2 t)
end
theorem mapM_cons {α β : Type} {f : α → Option β} {x : α} {r : List α} {ys : List β} (h : (x :: r).mapM f = some ys) : ∃ y t, f x = some y ∧ r.mapM f = some t ∧ ys = y :: t := by
  rw [List.mapM_cons] at h
  cases e : f x with
  | none => rw [e] at h; cases h
  | some y =>
    rw [e] at h
    cases e2 : r.mapM f with
    | none => rw [e2] at h; cases h
    | some t => rw [e2] at h; cases h; exact ⟨y, t, rfl, rfl, rfl⟩
theorem frzs_of {K : PySem.W.Frag} {ρ e : List Addr} {H : Hp} {f : PV → Option PV} (ih : ∀ {x x' : PV} {v : V}, f x = some x' → Rep K (ρ ++ e) H x v → Rep K ρ H x' v) :
    ∀ {xs ys : List PV} {vs : List V}, xs.mapM f = some ys → Reps K (ρ ++ e) H xs vs → Reps K ρ H ys vs
  | _, _, _, h, .nil => by cases h; exact .nil
  | _, _, _, h, .cons r t => by
    obtain ⟨y, u, e1, e2, rfl⟩ := mapM_cons h
    exact .cons (ih e1 r) (frzs_of ih e2 t)
theorem frz_of {K : PySem.W.Frag} {ρ e : List Addr} {H : Hp} {h : PHeap} {n : Nat} (hr : HR K (ρ ++ e) H h) (hn : ρ.length = n) : ∀ (f : Nat) {x x' : PV} {v : V}, frz f n h x = some x' → Rep K (ρ ++ e) H x v → Rep K ρ H x' v
  | 0, _, _, _, h, _ => by cases h
  | f + 1, x, x', v, hf, r => by
    unfold frz at hf
    split at hf
    · rename_i p; cases hf; exact pure_of p r
    · cases r with
      | @ref i a q =>
        simp only at hf
        split at hf
        · rename_i hl
          cases hf
          refine .ref ?_
          rw [List.getElem?_append_left (by rw [hn]; exact hl)] at q
          exact q
        · rename_i hl
          split at hf
          · rename_i xs eo
            obtain ⟨ys, e1, rfl⟩ := Option.map_eq_some_iff.mp hf
            obtain ⟨vs, hv, rv⟩ := hr.lst eo q
            refine .lst (fun m => ?_) hv (frzs_of (frz_of hr hn f) e1 rv)
            obtain ⟨j, ej⟩ := List.mem_iff_getElem?.mp m
            have hj : j < ρ.length := (List.getElem?_eq_some_iff.mp ej).1
            have ej' : (ρ ++ e)[j]? = some a := by rw [List.getElem?_append_left hj]; exact ej
            have hi : i < (ρ ++ e).length := (List.getElem?_eq_some_iff.mp q).1
            have := (List.getElem?_inj (i := j) (j := i) (by rw [List.length_append]; omega) hr.nd).mp (ej'.trans q.symm)
            omega
          · cases hf
      | tup q rs =>
        simp only at hf
        obtain ⟨ys, e1, rfl⟩ := Option.map_eq_some_iff.mp hf
        refine .tup ?_ (frzs_of (frz_of hr hn f) e1 rs)
        rcases q with ⟨n, e⟩ | q
        · exact .inl ⟨fun z => n (List.mem_append_left _ z), e⟩
        · exact .inr q
      | lst nm q rs =>
        simp only at hf
        obtain ⟨ys, e1, rfl⟩ := Option.map_eq_some_iff.mp hf
        exact .lst (fun z => nm (List.mem_append_left _ z)) q (frzs_of (frz_of hr hn f) e1 rs)
      | _ => cases hf
/-- back at the call -/
theorem HR.back {K : PySem.W.Frag} {ρ ρ' : List Addr} {H H' : Hp} {h h' : PHeap} (hr : HR K ρ H h) (st : Step ρ H ρ' H') (hr' : HR K ρ' H' h') (e : h'.take h.length = h) : Step ρ H ρ H' ∧ HR K ρ H' h := by
  obtain ⟨x, rfl, _⟩ := st.ext
  refine ⟨⟨⟨[], by simp, by simp⟩, st.keep, fun a m => st.dom a (List.mem_append_left _ m)⟩, hr.len, hr.nd, fun i o a eo q => ?_⟩
  have hi : i < h.length := (List.getElem?_eq_some_iff.mp eo).1
  have e' : h'[i]? = some o := by
    rw [← e] at eo
    rw [List.getElem?_take] at eo
    simpa [hi] using eo
  have q' : (ρ ++ x)[i]? = some a := by rw [List.getElem?_append_left (List.getElem?_eq_some_iff.mp q).1]; exact q
  have old := hr.obj i o a eo q
  cases hr'.obj i o a e' q' with
  | lst q1 r1 =>
    cases old with
    | lst q2 r2 => exact .lst q1 (olds r2 r1)
/-- a body's end is the call's -/
theorem exitR_of {K : PySem.W.Frag} {cn : Nat → Value} {E : XK} {ρ : List Addr} {H : Hp} {h : PHeap} {Q : VK} (hr : HR K ρ H h) : ∀ {r : SRes}, Post K cn (fun cls d _ H' => E cls d H') ρ H [] (exitR h r) (fun ρ' H' _ x => ∀ v, Rep K ρ' H' x v → Q v H') →
    PostS K cn (fun cls d _ H' => E cls d H') ρ H r { nx := fun _ H' => Q .non H', rt := Q }
  | .ret v h', p => by
    intro ρ' H' w st hr' rv
    simp only [exitR] at p
    split at p
    · rename_i e
      have e := heapEq_eq _ _ e
      obtain ⟨s1, h1⟩ := hr.back st hr' e
      split at p
      · rename_i v' ef
        obtain ⟨x, rfl, _⟩ := st.ext
        exact p ρ H' s1 h1 w (frz_of hr' hr.len 9 ef rv)
      · exact p ρ' H' st hr' w rv
    · exact p ρ' H' st hr' w rv
  | .next σ h', p => by
    intro ρ' H' τ st hr' sr
    simp only [exitR] at p
    split at p
    · rename_i e
      have e := heapEq_eq _ _ e
      obtain ⟨s1, h1⟩ := hr.back st hr' e
      exact p ρ H' s1 h1 .non .non
    · exact p ρ' H' st hr' .non .non
  | .exc c σ h', p => by
    intro ρ' H' τ st hr' sr
    simp only [exitR] at p
    split at p
    · rename_i e
      have e := heapEq_eq _ _ e
      obtain ⟨s1, h1⟩ := hr.back st hr' e
      exact p ρ H' s1 h1
    · exact p ρ' H' st hr'
  | .brk σ h', p => p.elim
  | .cont σ h', p => p.elim
  | .stuck, p => p.elim
theorem sr_start {K : PySem.W.Frag} {ρ : List Addr} {H : Hp} {N : List Str} {xs : List PV} {vs : List V} (r : Reps K ρ H xs vs) : SR K ρ H (startP N xs) (L2.start N vs) := by
  refine ⟨by simp [startP, L2.start, r.length], fun i x e => ?_⟩
  unfold startP at e
  unfold L2.start
  by_cases hi : i < xs.length
  · rw [List.getElem?_append_left (by simpa using hi), List.getElem?_map] at e
    rw [List.getElem?_append_left (by rw [List.length_map, ← r.length]; exact hi), List.getElem?_map]
    obtain ⟨y, e1, e2⟩ := Option.map_eq_some_iff.mp e
    cases e2
    obtain ⟨v, e3, rv⟩ := r.get e1
    exact ⟨v, by rw [e3]; rfl, rv⟩
  · rw [List.getElem?_append_right (by simpa using hi)] at e
    have := List.mem_replicate.mp (List.mem_iff_getElem?.mpr ⟨_, e⟩)
    cases this.2
structure Defs (cfg : Cfg) (K : PySem.W.Frag) (mg : Str → Option Value) (fa ea : Nat → Addr) : Prop where
  fns : ∀ (i : Nat) F, cfg.fns i = some F → ∃ fd params body scope, FunD K F.name F.name params body scope [] [] (fa i) fd ∧ mg F.name = some (.ref (fa i)) ∧ FnScope F.N F.params scope ∧ Binds K fd F.params [] ∧
    mSs cfg ⟨F.N, scope, fun _ => true, true⟩ F.body body = true
  glob : ∀ (g : Nat) x v, cfg.globs g = some (x, v) → ∃ u V, mg x = some u ∧ RelV V u ∧ ∀ ρ H, Rep K ρ H v V
  excs : ∀ (c : Nat) x, cfg.excs c = some x → mg x = some (.ref (ea c)) ∧ PySem.W.keepIn K (.ref (ea c)) = true ∧ PySem.W.excIn K (ea c) [.type "ValueError", .type "Exception", .type "BaseException", .type "object"] "ValueError.__new__" = true ∧
    PySem.W.subIn K (.ref (ea c)) (.type "BaseException") = some true ∧ PySem.W.typeIn K (.ref (ea c)) = some (.type "type")
  sub : ∀ c c', (cfg.excs c).isSome = true → (cfg.excs c').isSome = true → PySem.W.exmOne K (.ref (ea c)) (.ref (ea c')) = some (cfg.sub c c')
  blt : ∀ x ∈ bltNames, mg x = none
theorem fn_step {cfg : Cfg} {P : Program} {w : World} {K : PySem.W.Frag} {mg : Str → Option Value} {base : Heap} {fa ea : Nat → Addr} {k i : Nat} {F : FnI} {fd : FuncData} {params : Arguments} {body : List Stmt} {scope : Scope}
    (ih : Facts cfg P w K mg base k fa ea) (e : cfg.fns i = some F) (F1 : FunD K F.name F.name params body scope [] [] (fa i) fd) (F3 : FnScope F.N F.params scope) (F5 : mSs cfg ⟨F.N, scope, fun _ => true, true⟩ F.body body = true) :
    FnOk P w K mg base (CX P w) (k + 1) (fa i) fd F.params (spF K (fun c => .ref (ea c)) (run cfg (k + 1) i) F.params.length) := by
  refine F1.ok F3 (fun vs H Q E q => q.1) (fun cdv A outer s H vs Q E hR q => ?_)
  let X := cxOf (L2.CX P w) P w K mg base F.N F.name scope (fa i) cdv A outer s H E
  have G : GoodS cfg X ⟨F.N, scope, fun _ => true, true⟩ k fa ea (fun cls d _ H => E cls d H) := {
    N := rfl
    sc := rfl
    nd := F3.nd
    calm := fun _ => rfl
    fn := fun _ _ => rfl
    tk := takes_of rfl rfl rfl rfl
    room := fun _ => hR
    hu := by have := hR.un; show (A.deeper _).units + 65 < cLine; omega
    facts := ih
    pass := passes_of rfl
    stk := rfl
    frm := rfl
    kind := F3.kind }
  refine ⟨_, soundSs F.body X _ _ G body F5, ?_⟩
  obtain ⟨hl, ρ, h, xs, hr, rs, p⟩ := q
  refine ⟨ρ, startP F.N xs, h, sr_start rs, hr, ?_⟩
  refine exitR_of hr ?_
  have er : run cfg (k + 1) i xs h = if xs.length = F.params.length then exitR h (evSs cfg (run cfg k) F.body (startP F.N xs) h) else .stuck := by
    show (match cfg.fns i with
      | none => _
      | some F => _) = _
    rw [e]
  rw [er, if_pos (by rw [rs.length, hl])] at p
  exact p
theorem facts_all {cfg : Cfg} {P : Program} {w : World} {K : PySem.W.Frag} {mg : Str → Option Value} {base : Heap} {fa ea : Nat → Addr} (D : Defs cfg K mg fa ea) : ∀ k, Facts cfg P w K mg base k fa ea := by
  intro k
  induction k with
  | zero =>
    refine ⟨fun i F e => ?_, D.glob, D.excs, D.sub, D.blt⟩
    obtain ⟨fd, params, body, scope, F1, F2, F3, F4, F5⟩ := D.fns i F e
    refine ⟨fd, F2, F1.kp, F4, fun vs H Q E q => q.1, fun A outer s H args us vs Q E hR e0 hb hv q => ?_⟩
    obtain ⟨_, ρ, h, xs, _, _, p⟩ := q
    exact p.elim
  | succ k ih =>
    refine ⟨fun i F e => ?_, D.glob, D.excs, D.sub, D.blt⟩
    obtain ⟨fd, params, body, scope, F1, F2, F3, F4, F5⟩ := D.fns i F e
    exact ⟨fd, F2, F1.kp, F4, fn_step ih e F1 F3 F5⟩
end Fx
end
section
set_option Elab.async false
set_option linter.all false
set_option maxRecDepth 100000
set_option maxHeartbeats 16000000
/-! Fx, part 6: a law by the head's facts. -/
namespace Fx
open PySem L2 PySem.Spec PyProof.Rows
/-- a def of the text: its number, its form, its statement -/
structure DefR where
  no : Nat
  fn : FnI
  st : Stmt
structure Tab where
  defs : List DefR
  globs : List (Nat × Str × PV)
  excs : List (Nat × Str)
  sub : Nat → Nat → Bool
  fuel : Nat
def Tab.def? (T : Tab) (i : Nat) : Option DefR := T.defs.find? fun d => d.no == i
def Tab.exc? (T : Tab) (i : Nat) : Option Str := (T.excs.find? fun d => d.1 == i).map (·.2)
def Tab.glob? (T : Tab) (i : Nat) : Option (Str × PV) := (T.globs.find? fun d => d.1 == i).map (·.2)
def Tab.cfg (T : Tab) : Cfg where
  fns := fun i => (T.def? i).map (·.fn)
  globs := T.glob?
  excs := T.exc?
  sub := T.sub
  fuel := T.fuel
def DefR.dd (d : DefR) : He.DefD := ⟨(d.fn.name, none), d.fn.name, d.fn.name, defArgs d.st, defBody d.st, defScope d.st, [], []⟩
def gFa (g : Nat × Str × PV) : He.Fa := match g.2.2 with
  | .int i => .int g.2.1 i
  | .str s => .str g.2.1 s
  | _ => .glo g.2.1
def gOk (g : Nat × Str × PV) : Bool := match g.2.2 with
  | .int _ => true
  | .str _ => true
  | _ => false
def Tab.fas (T : Tab) : List He.Fa := T.defs.map (fun d => .glo d.fn.name) ++ (bltNames.map .free ++ (T.globs.map gFa ++ (T.excs.map (fun e => .glo e.2) ++ (T.excs.map (fun e => .exc e.2) ++ T.excs.flatMap fun e => T.excs.map fun e' => .exm e.2 e'.2 (T.sub e.1 e'.1)))))
def Tab.dds (T : Tab) : List He.DefD := T.defs.map DefR.dd
/-- a def's own checks -/
structure DefOk (cfg : Cfg) (d : DefR) : Prop where
  sc : FnScope d.fn.N d.fn.params (defScope d.st)
  bind : ∀ (kV doc pm : Value) (an : Option Addr) (cdv ct : Value) (us : List Value), us.length = d.fn.params.length → bindArgs (PySem.W.fnOf d.fn.name d.fn.name (defArgs d.st) (defBody d.st) (defScope d.st) .none kV doc pm an cdv ct) ⟨us, []⟩ = pure (d.fn.params.zip us)
  eq : mSs cfg ⟨d.fn.N, defScope d.st, fun _ => true, true⟩ d.fn.body (defBody d.st) = true
def Tab.fa (T : Tab) (K : PySem.W.Frag) (i : Nat) : Addr := match T.def? i with
  | some d => He.ga K d.fn.name
  | none => 0
def Tab.ea (T : Tab) (K : PySem.W.Frag) (i : Nat) : Addr := match T.exc? i with
  | some x => He.ga K x
  | none => 0
section
variable {T : Tab} {K : PySem.W.Frag} {h : Heap} {mg : Str → Option Value}
theorem says_fact (c : He.SaysD T.fas T.dds K) {f : He.Fa} (m : f ∈ T.fas) : f.ok K = true := by
  obtain ⟨i, hi⟩ := List.mem_iff_getElem?.mp m
  exact c.fact i hi
theorem says_def (c : He.SaysD T.fas T.dds K) {d : DefR} (m : d ∈ T.defs) : ∃ fd, FunD K d.fn.name d.fn.name (defArgs d.st) (defBody d.st) (defScope d.st) [] [] (He.ga K d.fn.name) fd := by
  obtain ⟨i, hi⟩ := List.mem_iff_getElem?.mp m
  exact c.def_ i (d := d.dd) (by unfold Tab.dds; rw [List.getElem?_map, hi]; rfl)
theorem def_mem {i : Nat} {d : DefR} (e : T.def? i = some d) : d ∈ T.defs := List.mem_of_find?_eq_some e
theorem exc_mem {i : Nat} {x : Str} (e : T.exc? i = some x) : (i, x) ∈ T.excs := by
  obtain ⟨d, e1, e2⟩ := Option.map_eq_some_iff.mp e
  have m := List.mem_of_find?_eq_some e1
  have q := List.find?_some e1
  obtain ⟨a, b⟩ := d
  have : a = i := by simpa using q
  subst this
  cases e2
  exact m
theorem glob_mem {i : Nat} {x : Str × PV} (e : T.glob? i = some x) : (i, x) ∈ T.globs := by
  obtain ⟨d, e1, e2⟩ := Option.map_eq_some_iff.mp e
  have m := List.mem_of_find?_eq_some e1
  have q := List.find?_some e1
  obtain ⟨a, b⟩ := d
  have : a = i := by simpa using q
  subst this
  cases e2
  exact m
theorem defs_of (X : K.In h) (G : h.Ns mainGlobals mg) (c : He.SaysD T.fas T.dds K) (ok : ∀ d ∈ T.defs, DefOk T.cfg d) (gk : T.globs.all gOk = true) : Defs T.cfg K mg (T.fa K) (T.ea K) where
  fns := fun i F e => by
    obtain ⟨d, e1, rfl⟩ := Option.map_eq_some_iff.mp e
    have m := def_mem e1
    obtain ⟨fd, FD⟩ := says_def c m
    have o := ok d m
    have ea : T.fa K i = He.ga K d.fn.name := by unfold Tab.fa; rw [e1]
    refine ⟨fd, _, _, _, by rw [ea]; exact FD, by rw [ea]; exact He.glo_ok X G (says_fact c (List.mem_append_left _ (List.mem_map.mpr ⟨d, m, rfl⟩))), o.sc, FD.bindsN o.bind, o.eq⟩
  glob := fun g x v e => by
    have m := glob_mem e
    have k := List.all_eq_true.mp gk _ m
    have f : gFa (g, x, v) ∈ T.fas := by
      unfold Tab.fas
      exact List.mem_append_right _ (List.mem_append_right _ (List.mem_append_left _ (List.mem_map.mpr ⟨_, m, rfl⟩)))
    have q := says_fact c f
    cases v with
    | int i =>
      obtain ⟨t, et⟩ := He.int_ok X G q
      exact ⟨_, .int i, et, ⟨t, rfl⟩, fun _ _ => .int i⟩
    | str s =>
      obtain ⟨t, et⟩ := He.str_ok X G q
      exact ⟨_, .str s, et, ⟨t, rfl⟩, fun _ _ => .str s⟩
    | _ => exact nomatch (show false = true from k)
  excs := fun i x e => by
    have m := exc_mem e
    have f1 : He.Fa.glo x ∈ T.fas := by
      unfold Tab.fas
      exact List.mem_append_right _ (List.mem_append_right _ (List.mem_append_right _ (List.mem_append_left _ (List.mem_map.mpr ⟨_, m, rfl⟩))))
    have f2 : He.Fa.exc x ∈ T.fas := by
      unfold Tab.fas
      exact List.mem_append_right _ (List.mem_append_right _ (List.mem_append_right _ (List.mem_append_right _ (List.mem_append_left _ (List.mem_map.mpr ⟨_, m, rfl⟩)))))
    have ea : T.ea K i = He.ga K x := by unfold Tab.ea; rw [show T.exc? i = some x from e]
    obtain ⟨a, b, c', d⟩ := He.exc_ok (says_fact c f2)
    rw [ea]
    exact ⟨He.glo_ok X G (says_fact c f1), b, a, c', d⟩
  sub := fun i j e1 e2 => by
    obtain ⟨x, e1⟩ := Option.isSome_iff_exists.mp e1
    obtain ⟨y, e2⟩ := Option.isSome_iff_exists.mp e2
    have m1 := exc_mem e1
    have m2 := exc_mem e2
    have f : He.Fa.exm x y (T.sub i j) ∈ T.fas := by
      unfold Tab.fas
      exact List.mem_append_right _ (List.mem_append_right _ (List.mem_append_right _ (List.mem_append_right _ (List.mem_append_right _ (List.mem_flatMap.mpr ⟨_, m1, List.mem_map.mpr ⟨_, m2, rfl⟩⟩)))))
    have ea1 : T.ea K i = He.ga K x := by unfold Tab.ea; rw [show T.exc? i = some x from e1]
    have ea2 : T.ea K j = He.ga K y := by unfold Tab.ea; rw [show T.exc? j = some y from e2]
    rw [ea1, ea2]
    exact He.exm_ok (says_fact c f)
  blt := fun x m => He.free_ok X G (says_fact c (List.mem_append_right _ (List.mem_append_left _ (List.mem_map.mpr ⟨x, m, rfl⟩))))
end
/-- the law's walk -/
theorem walk_fx {l : PySem.W.OpenLaw} {n k : Nat} {q : Program} {loose : List Str} {XP : (Str → Option Value) → Heap → Prop} {d : DefRec} {T : Tab} {i : Nat} {D : DefR} {x : Str} (hn : l.most = some n) (hn2 : n ≤ sizeLine) (hdf : d.params.defaults = []) (hr : Room (k + 1) callerA)
    (hi : T.def? i = some D) (hd : d.name = D.fn.name) (hp : D.fn.params = [x]) (ok : ∀ d ∈ T.defs, DefOk T.cfg d) (gk : T.globs.all gOk = true)
    (law : ∀ ns : List Int, ns.length ≤ n → run T.cfg (k + 1) i [.scr ns] [] = .ok (.bl true) []) :
    PySem.W.WalkO q loose XP (fun _ h => ∃ K : PySem.W.Frag, K.In h ∧ He.SaysD T.fas T.dds K) l.row.toRowW d [] (fun f vs => PySem.call f vs) := by
  refine Att.attach_call hn hdf fun w s₀ s₁ mg mb fa o pm cd doc a vs ns G Y ho hdo hcd hmg hobj hints hlen hg => ?_
  obtain ⟨K, KX, c⟩ := Y
  have DD := defs_of KX G.T.g c ok gk
  have m := def_mem hi
  obtain ⟨fd, FD⟩ := says_def c m
  have o' := ok D m
  have e2 : mg D.fn.name = some (.ref (He.ga K D.fn.name)) := He.glo_ok KX G.T.g (says_fact c (List.mem_append_left _ (List.mem_map.mpr ⟨D, m, rfl⟩)))
  rw [hd] at hmg
  have ef := hmg.symm.trans e2
  cases ef
  have hb := FD.bindsA o'.bind
  have eT : T.cfg.fns i = some D.fn := by show (T.def? i).map (·.fn) = _; rw [hi]; rfl
  have eFa : T.fa K i = He.ga K D.fn.name := by unfold Tab.fa; rw [hi]
  refine law_call (CX := L2.CX l.prog w) (k := k + 1) (fd := fd) (x := x) (sp := spF K (fun c => .ref (T.ea K c)) (run T.cfg (k + 1) i) 1) KX G.T.g G.T.b G.T.builtins G.T.nolimit hg hobj hints (Nat.le_trans hlen hn2) hr ?_ ?_ ?_ ?_
  · intro base hB hN
    have z := fn_step (P := l.prog) (w := w) (base := base) (facts_all DD k) eT (by rw [eFa]; exact FD) o'.sc o'.eq
    rw [eFa, hp] at z
    exact z
  · intro s u
    have z := hb s [u] (by rw [hp]; rfl)
    rw [hp] at z
    exact z
  · intro H hO hS
    refine ⟨rfl, [], [], [.scr ns], ⟨rfl, .nil, fun i o a e => by simp at e⟩, .cons (.scr ?_) .nil, ?_⟩
    · rcases hS with z | z
      · exact .inl ⟨by simp, z⟩
      · exact .inr z
    · rw [law ns hlen]
      intro ρ' H' st hr v rv
      cases rv
      rfl
  · rintro H e s' ⟨_, _, _, _, _, _, _, _, _, _, _, _, f⟩
    exact f
end Fx
end
section
set_option Elab.async false
set_option linter.all false
set_option maxRecDepth 100000
set_option maxHeartbeats 4000000
/-! Fx, texts as lists of their signs. -/
namespace Fx
open PySem PySem.Builtin PySem.Builtin.Str
open SX (S)
open L2 (atI)
/-- where c first stands -/
def fnd (c : Nat) : List Nat → Option Nat
  | [] => none
  | x :: r => if x = c then some 0 else (fnd c r).map (· + 1)
theorem occ_full (s sub : Str) (hi : Nat) : ∀ (l : List Nat) (st : Array Nat × Nat), st.fst.size = 1 → (forIn l st (StrLaws.occBody s sub hi 1)).run.fst = st.fst
  | [], st, h => rfl
  | a :: l, st, h => by
    rw [List.forIn_cons]
    unfold StrLaws.occBody
    split
    · rename_i hc
      exact absurd hc.1.1.1 (by omega)
    · exact occ_full s sub hi l _ h
theorem occ_fnd (a : List Nat) (c : Nat) : ∀ (m cur free : Nat), free ≤ cur → cur + m = a.length + 1 →
    (forIn (List.range' cur m) ((#[] : Array Nat), free) (StrLaws.occBody (S a) (S [c]) a.length 1)).run.fst.toList = (match fnd c (a.drop cur) with
      | some j => [cur + j]
      | none => [])
  | 0, cur, free, hf, hm => by
    rw [List.drop_eq_nil_of_le (by omega)]
    rfl
  | m + 1, cur, free, hf, hm => by
    rw [List.range'_succ, List.forIn_cons]
    unfold StrLaws.occBody
    have one := StrLaws.subAt_one (S a) c cur
    have e1 : (S a).cps.toList[cur]? = a[cur]? := by simp
    rw [e1] at one
    by_cases hc : a[cur]? = some c
    · have k := one.mpr hc
      have k1 : cur + (S [c]).length ≤ a.length := by
        have := k.1
        rw [SX.S_len] at this
        exact this
      rw [if_pos ⟨⟨⟨by simp, hf⟩, k1⟩, k.2⟩]
      have lt : cur < a.length := (List.getElem?_eq_some_iff.mp hc).1
      have hd : a.drop cur = a[cur] :: a.drop (cur + 1) := List.drop_eq_getElem_cons lt
      have he : a[cur] = c := by
        have := (List.getElem?_eq_some_iff.mp hc).2
        exact this
      rw [hd, fnd, if_pos he]
      show (forIn (List.range' (cur + 1) m) _ (StrLaws.occBody (S a) (S [c]) a.length 1)).run.fst.toList = _
      rw [occ_full _ _ _ _ _ (by simp)]
      simp
    · have nk : ¬ ((((#[] : Array Nat).size < 1 ∧ free ≤ cur) ∧ cur + (S [c]).length ≤ a.length) ∧ subAt (S a) (S [c]) cur = true) := fun h => hc (one.mp ⟨by rw [SX.S_len]; exact h.1.2, h.2⟩)
      rw [if_neg nk]
      show (forIn (List.range' (cur + 1) m) _ (StrLaws.occBody (S a) (S [c]) a.length 1)).run.fst.toList = _
      rw [occ_fnd a c m (cur + 1) free (by omega) (by omega)]
      by_cases lt : cur < a.length
      · have hd : a.drop cur = a[cur] :: a.drop (cur + 1) := List.drop_eq_getElem_cons lt
        have he : a[cur] ≠ c := fun h => hc (by rw [List.getElem?_eq_getElem lt, h])
        rw [hd, fnd, if_neg he]
        cases fnd c (a.drop (cur + 1)) with
        | none => rfl
        | some j =>
          show [cur + 1 + j] = [cur + (j + 1)]
          congr 1; omega
      · rw [List.drop_eq_nil_of_le (by omega), List.drop_eq_nil_of_le (by omega)]
        rfl
theorem occ_one (a : List Nat) (c lo : Nat) : occurrences (S a) (S [c]) lo a.length 1 = (match fnd c (a.drop lo) with
    | some j => [lo + j]
    | none => []) := by
  rw [StrLaws.occ_eq]
  by_cases h : lo ≤ a.length
  · exact occ_fnd a c (a.length + 1 - lo) lo lo (Nat.le_refl _) (by omega)
  · rw [List.drop_eq_nil_of_le (by omega), show a.length + 1 - lo = 0 by omega]
    rfl
theorem find_one (a : List Nat) (c : Nat) : Txt.find (S a) (S [c]) = (match fnd c a with
    | some j => (j : Int)
    | none => -1) := by
  unfold Txt.find
  rw [SX.S_len, occ_one, List.drop_zero]
  cases fnd c a with
  | none => rfl
  | some j => simp
theorem find3_one (a : List Nat) (c n : Nat) (hn : n ≤ a.length) : Txt.find3 (S a) (S [c]) (n : Int) = (match fnd c (a.drop n) with
    | some j => ((n + j : Nat) : Int)
    | none => -1) := by
  unfold Txt.find3
  have e : fromIndex (S a).length (n : Int) = n := by
    rw [SX.S_len]
    unfold fromIndex
    rw [if_neg (by omega)]
    omega
  rw [e, SX.S_len, occ_one]
  cases fnd c (a.drop n) with
  | none => rfl
  | some j => rfl
theorem index_one (a : List Nat) (c : Nat) : Txt.index0 (S a) (S [c]) = fnd c a := by
  unfold Txt.index0
  rw [SX.S_len, occ_one, List.drop_zero]
  cases fnd c a with
  | none => rfl
  | some j => simp
theorem join_nil : ∀ ys : List (List Nat), TL.joinL [] ys = ys.flatten
  | [] => rfl
  | [x] => by simp [TL.joinL]
  | x :: y :: r => by
    have := join_nil (y :: r)
    simp only [List.flatten_cons] at this ⊢
    rw [← this]
    simp [TL.joinL]
/-! ### values of texts -/
abbrev sv (l : List Nat) : PV := .str (S l)
def L (s : String) : List Nat := s.toList.map Char.toNat
theorem of_lit (s : String) : PySem.Str.ofString s = S (L s) := TL.ext_tl (by rw [TL.tl_ofString, TL.tl_mk]; rfl)
theorem add_sv (h : PHeap) (a b : List Nat) (q : a.length + b.length ≤ sizeLine) : addV h (sv a) (sv b) = some (sv (a ++ b)) := by
  show (if (S a).length + (S b).length ≤ sizeLine then some (PV.str (S a ++ S b)) else none) = _
  rw [SX.S_len, SX.S_len, if_pos q, SX.S_cat]
theorem aug_sv (a b : List Nat) (q : a.length + b.length ≤ sizeLine) : augV .Add (sv a) (sv b) = some (sv (a ++ b)) := by
  show (if (S a).length + (S b).length ≤ sizeLine then some (PV.str (S a ++ S b)) else none) = _
  rw [SX.S_len, SX.S_len, if_pos q, SX.S_cat]
theorem len_sv (h : PHeap) (a : List Nat) (q : a.length ≤ sizeLine) : bfV .len h [sv a] = some (.int a.length) := by
  show (if (S a).length ≤ sizeLine then some (PV.int ((S a).length : Nat)) else none) = _
  rw [SX.S_len, if_pos q]
theorem chars_sv (a : List Nat) : chars (S a) = a.map fun c => sv [c] := by
  unfold chars
  simp
theorem sub_sv (h : PHeap) (a : List Nat) (i : Int) (q : a.length ≤ sizeLine) : subsV h (sv a) (.int i) = (atI a i).map fun c => sv [c] := by
  show (if (S a).length ≤ sizeLine then (atI (S a).cps.toList i).map _ else none) = _
  rw [SX.S_len, if_pos q]
theorem cut_sv (h : PHeap) (a : List Nat) (lo hi : Option Int) (q : a.length ≤ sizeLine) : sliceV h (sv a) lo hi = some (sv (cutP a lo hi)) := by
  show (if (S a).length ≤ sizeLine then some (PV.str (L2.cutS (S a) lo hi)) else none) = _
  rw [SX.S_len, if_pos q]
  unfold L2.cutS cutP
  rw [SX.S_len]
theorem cut_to {α : Type} (xs : List α) (n : Nat) : cutP xs none (some (n : Int)) = xs.take n := by
  unfold cutP
  rw [HT.sIx_none, HT.sIx_nat, List.drop_zero, Nat.sub_zero]
  rcases Nat.le_total n xs.length with z | z
  · rw [Nat.min_eq_left z]
  · rw [Nat.min_eq_right z, List.take_of_length_le (Nat.le_refl _), List.take_of_length_le z]
theorem cut_from {α : Type} (xs : List α) (n : Nat) : cutP xs (some (n : Int)) none = xs.drop n := by
  unfold cutP
  rw [HT.sIx_none, HT.sIx_nat]
  rcases Nat.le_total n xs.length with z | z
  · rw [Nat.min_eq_left z, List.take_of_length_le (by simp)]
  · rw [Nat.min_eq_right z, List.drop_eq_nil_of_le (Nat.le_refl _), List.drop_eq_nil_of_le z]; simp
theorem cut_mid {α : Type} (xs : List α) (m n : Nat) : cutP xs (some (m : Int)) (some (n : Int)) = (xs.take n).drop m := by
  unfold cutP
  rw [HT.sIx_nat, HT.sIx_nat, List.drop_take]
  rcases Nat.le_total m xs.length with z | z
  · rw [Nat.min_eq_left z]
    rcases Nat.le_total n xs.length with y | y
    · rw [Nat.min_eq_left y]
    · rw [Nat.min_eq_right y, List.take_of_length_le (by simp), List.take_of_length_le (by simp; omega)]
  · rw [Nat.min_eq_right z, List.drop_eq_nil_of_le (Nat.le_refl _), List.drop_eq_nil_of_le z]; simp
theorem cut_ahead {α : Type} (xs : List α) (n : Nat) (hn : 0 < n) : cutP xs none (some (-(n : Int))) = xs.take (xs.length - n) := by
  unfold cutP
  rw [HT.sIx_none]
  show ((xs.drop 0).take ((if (-(n : Int)) < 0 then (-(n : Int) + (xs.length : Int)).toNat else _) - 0)) = _
  rw [if_pos (by omega), List.drop_zero, show (-(n : Int) + (xs.length : Int)).toNat - 0 = xs.length - n by omega]
theorem cut_tail {α : Type} (xs : List α) (n : Nat) (hn : 0 < n) : cutP xs (some (-(n : Int))) none = xs.drop (xs.length - n) := by
  unfold cutP
  rw [HT.sIx_none]
  show ((xs.drop (if (-(n : Int)) < 0 then (-(n : Int) + (xs.length : Int)).toNat else _)).take (xs.length - (if (-(n : Int)) < 0 then (-(n : Int) + (xs.length : Int)).toNat else _))) = _
  rw [if_pos (by omega), show (-(n : Int) + (xs.length : Int)).toNat = xs.length - n by omega, List.take_of_length_le (by simp)]
theorem cut_both {α : Type} (xs : List α) (m n : Nat) (hn : 0 < n) : cutP xs (some (m : Int)) (some (-(n : Int))) = (xs.take (xs.length - n)).drop m := by
  unfold cutP
  rw [HT.sIx_nat]
  show ((xs.drop (min m xs.length)).take ((if (-(n : Int)) < 0 then (-(n : Int) + (xs.length : Int)).toNat else _) - min m xs.length)) = _
  rw [if_pos (by omega), show (-(n : Int) + (xs.length : Int)).toNat = xs.length - n by omega, List.drop_take]
  rcases Nat.le_total m xs.length with z | z
  · rw [Nat.min_eq_left z]
  · rw [Nat.min_eq_right z, List.drop_eq_nil_of_le (Nat.le_refl _), List.drop_eq_nil_of_le z]; simp
theorem atI_nat {α : Type} (xs : List α) (n : Nat) : atI xs (n : Int) = xs[n]? := by
  unfold atI L2.ixN
  rw [if_pos (by omega)]
  by_cases h : n < xs.length
  · rw [if_pos (by omega)]; simp
  · rw [if_neg (by omega), List.getElem?_eq_none (by omega)]; rfl
mutual
/-- no truth value in it, of no more than n levels, its texts of signs -/
def PV.cl : PV → Nat → Bool
  | .non, _ => true
  | .int _, _ => true
  | .str s, _ => s.cps.all (· < 0x110000)
  | .tup xs, n + 1 => PV.cls xs n
  | .lst xs, n + 1 => PV.cls xs n
  | _, _ => false
def PV.cls : List PV → Nat → Bool
  | [], _ => true
  | x :: r, n => PV.cl x n && PV.cls r n
end
mutual
theorem cl_data : ∀ (x : PV) (n : Nat), PV.cl x n = true → ∃ d, toD x = some d ∧ d.canLay0 = true ∧ d.depth ≤ n
  | .non, n, _ => ⟨.none, rfl, by simp only [PyData.canLay0], by simp only [PyData.depth]; omega⟩
  | .int i, n, _ => ⟨.int i, rfl, by simp only [PyData.canLay0], by simp only [PyData.depth]; omega⟩
  | .str s, n, h => ⟨.str s, rfl, by simp only [PyData.canLay0]; simpa [PV.cl, PyData.strOk] using h, by simp only [PyData.depth]; omega⟩
  | .tup xs, n + 1, h => by
    obtain ⟨ds, e, a, b⟩ := cls_data xs n (by simpa [PV.cl] using h)
    exact ⟨.tuple ds, by simp [toD, e], by simp only [PyData.canLay0]; exact a, by simp only [PyData.depth]; omega⟩
  | .lst xs, n + 1, h => by
    obtain ⟨ds, e, a, b⟩ := cls_data xs n (by simpa [PV.cl] using h)
    exact ⟨.list ds, by simp [toD, e], by simp only [PyData.canLay0]; exact a, by simp only [PyData.depth]; omega⟩
  | .tup xs, 0, h => by simp [PV.cl] at h
  | .lst xs, 0, h => by simp [PV.cl] at h
  | .bl _, _, h => by simp [PV.cl] at h
  | .scr _, _, h => by simp [PV.cl] at h
  | .ref _, _, h => by simp [PV.cl] at h
theorem cls_data : ∀ (x : List PV) (n : Nat), PV.cls x n = true → ∃ d, toDs x = some d ∧ PyData.canLayAll0 d = true ∧ PyData.depthAll d ≤ n
  | [], n, _ => ⟨[], rfl, by simp only [PyData.canLayAll0], by simp only [PyData.depthAll]; omega⟩
  | x :: r, n, h => by
    simp only [PV.cls, Bool.and_eq_true] at h
    obtain ⟨d, e, a, b⟩ := cl_data x n h.1
    obtain ⟨ds, e2, a2, b2⟩ := cls_data r n h.2
    exact ⟨d :: ds, by simp [toDs, e, e2], by simp only [PyData.canLayAll0, a, a2]; rfl, by simp only [PyData.depthAll]; omega⟩
end
mutual
theorem cl_eqv : ∀ (x y : PV) (n m : Nat) (d e : PyData), PV.cl x n = true → PV.cl y m = true → toD x = some d → toD y = some e → PyData.eqv d e = PV.beq x y
  | .non, y, n, m, d, e, h, k, p, q => by
    cases p
    cases y with
    | tup ys =>
      simp only [toD, Option.map_eq_some_iff] at q
      obtain ⟨es, e2, rfl⟩ := q
      simp [PyData.eqv, PV.beq]
    | lst ys =>
      simp only [toD, Option.map_eq_some_iff] at q
      obtain ⟨es, e2, rfl⟩ := q
      simp [PyData.eqv, PV.beq]
    | non => cases q; simp [PyData.eqv, PV.beq]
    | int _ => cases q; simp [PyData.eqv, PV.beq]
    | str _ => cases q; simp [PyData.eqv, PV.beq]
    | bl _ => simp [PV.cl] at k
    | scr _ => simp [PV.cl] at k
    | ref _ => simp [PV.cl] at k
  | .int i, y, n, m, d, e, h, k, p, q => by
    cases p
    cases y with
    | tup ys =>
      simp only [toD, Option.map_eq_some_iff] at q
      obtain ⟨es, e2, rfl⟩ := q
      simp [PyData.eqv, PV.beq]
    | lst ys =>
      simp only [toD, Option.map_eq_some_iff] at q
      obtain ⟨es, e2, rfl⟩ := q
      simp [PyData.eqv, PV.beq]
    | non => cases q; simp [PyData.eqv, PV.beq]
    | int _ => cases q; simp [PyData.eqv, PV.beq]
    | str _ => cases q; simp [PyData.eqv, PV.beq]
    | bl _ => simp [PV.cl] at k
    | scr _ => simp [PV.cl] at k
    | ref _ => simp [PV.cl] at k
  | .str i, y, n, m, d, e, h, k, p, q => by
    cases p
    cases y with
    | tup ys =>
      simp only [toD, Option.map_eq_some_iff] at q
      obtain ⟨es, e2, rfl⟩ := q
      simp [PyData.eqv, PV.beq]
    | lst ys =>
      simp only [toD, Option.map_eq_some_iff] at q
      obtain ⟨es, e2, rfl⟩ := q
      simp [PyData.eqv, PV.beq]
    | non => cases q; simp [PyData.eqv, PV.beq]
    | int _ => cases q; simp [PyData.eqv, PV.beq]
    | str _ => cases q; simp [PyData.eqv, PV.beq]
    | bl _ => simp [PV.cl] at k
    | scr _ => simp [PV.cl] at k
    | ref _ => simp [PV.cl] at k
  | .tup xs, y, n, m, d, e, h, k, p, q => by
    cases n with
    | zero => simp [PV.cl] at h
    | succ n =>
      simp only [toD, Option.map_eq_some_iff] at p
      obtain ⟨ds, e1, rfl⟩ := p
      cases y with
      | tup ys =>
        cases m with
        | zero => simp [PV.cl] at k
        | succ m =>
          simp only [toD, Option.map_eq_some_iff] at q
          obtain ⟨es, e2, rfl⟩ := q
          simp only [PyData.eqv, PV.beq]
          exact cls_eqv xs ys n m ds es (by simpa [PV.cl] using h) (by simpa [PV.cl] using k) e1 e2
      | lst ys =>
        simp only [toD, Option.map_eq_some_iff] at q
        obtain ⟨es, e2, rfl⟩ := q
        simp [PyData.eqv, PV.beq]
      | non => cases q; simp [PyData.eqv, PV.beq]
      | int _ => cases q; simp [PyData.eqv, PV.beq]
      | str _ => cases q; simp [PyData.eqv, PV.beq]
      | bl _ => simp [PV.cl] at k
      | scr _ => simp [PV.cl] at k
      | ref _ => simp [PV.cl] at k
  | .lst xs, y, n, m, d, e, h, k, p, q => by
    cases n with
    | zero => simp [PV.cl] at h
    | succ n =>
      simp only [toD, Option.map_eq_some_iff] at p
      obtain ⟨ds, e1, rfl⟩ := p
      cases y with
      | lst ys =>
        cases m with
        | zero => simp [PV.cl] at k
        | succ m =>
          simp only [toD, Option.map_eq_some_iff] at q
          obtain ⟨es, e2, rfl⟩ := q
          simp only [PyData.eqv, PV.beq]
          exact cls_eqv xs ys n m ds es (by simpa [PV.cl] using h) (by simpa [PV.cl] using k) e1 e2
      | tup ys =>
        simp only [toD, Option.map_eq_some_iff] at q
        obtain ⟨es, e2, rfl⟩ := q
        simp [PyData.eqv, PV.beq]
      | non => cases q; simp [PyData.eqv, PV.beq]
      | int _ => cases q; simp [PyData.eqv, PV.beq]
      | str _ => cases q; simp [PyData.eqv, PV.beq]
      | bl _ => simp [PV.cl] at k
      | scr _ => simp [PV.cl] at k
      | ref _ => simp [PV.cl] at k
  | .bl _, _, _, _, _, _, h, _, _, _ => by simp [PV.cl] at h
  | .scr _, _, _, _, _, _, h, _, _, _ => by simp [PV.cl] at h
  | .ref _, _, _, _, _, _, h, _, _, _ => by simp [PV.cl] at h
theorem cls_eqv : ∀ (x y : List PV) (n m : Nat) (d e : List PyData), PV.cls x n = true → PV.cls y m = true → toDs x = some d → toDs y = some e → PyData.eqvAll d e = PV.beqs x y
  | [], [], _, _, d, e, _, _, p, q => by cases p; cases q; simp [PyData.eqvAll, PV.beqs]
  | [], y :: r, _, _, d, e, _, k, p, q => by
    cases p
    obtain ⟨es, e2, _, _⟩ := cls_data _ _ k
    rw [q] at e2
    cases e with
    | nil =>
      simp only [toDs] at q
      split at q <;> cases q
    | cons _ _ => simp [PyData.eqvAll, PV.beqs]
  | x :: r, [], _, _, d, e, h, _, p, q => by
    cases q
    cases d with
    | nil =>
      simp only [toDs] at p
      split at p <;> cases p
    | cons _ _ => simp [PyData.eqvAll, PV.beqs]
  | x :: r, y :: t, n, m, d, e, h, k, p, q => by
    simp only [PV.cls, Bool.and_eq_true] at h k
    simp only [toDs] at p q
    split at p
    · rename_i d1 ds1 p1 p2
      cases p
      split at q
      · rename_i e1 es1 q1 q2
        cases q
        simp only [PyData.eqvAll, PV.beqs, cl_eqv x y n m _ _ h.1 k.1 p1 q1, cls_eqv r t n m _ _ h.2 k.2 p2 q2]
      · cases q
    · cases p
end
instance : DecidableEq PV := fun x y => if h : PV.beq x y = true then isTrue (PV.eq_of_beq x y h) else isFalse fun e => h (by rw [e]; exact PV.beq_self y)
theorem beq_dec (x y : PV) : PV.beq x y = decide (x = y) := by
  by_cases h : x = y
  · rw [h, PV.beq_self]; simp
  · rw [decide_eq_false h]
    cases e : PV.beq x y with
    | false => rfl
    | true => exact absurd (PV.eq_of_beq x y e) h
theorem eq_cl (h : PHeap) (x y : PV) (a : PV.cl x 60 = true) (b : PV.cl y 60 = true) : eqV h x y = some (decide (x = y)) := by
  obtain ⟨d, e1, c1, d1⟩ := cl_data x _ a
  obtain ⟨e, e2, c2, d2⟩ := cl_data y _ b
  have h1 : toDH h x = some d := by
    cases x with
    | ref _ => simp [PV.cl] at a
    | _ => exact e1
  have h2 : toDH h y = some e := by
    cases y with
    | ref _ => simp [PV.cl] at b
    | _ => exact e2
  unfold eqV
  rw [h1, h2]
  show eqD d e = _
  unfold eqD
  have s1 : SeqAt.shaped d = true := by unfold SeqAt.shaped; rw [c1]; simp; omega
  have s2 : SeqAt.shaped e = true := by unfold SeqAt.shaped; rw [c2]; simp; omega
  rw [s1, s2, cl_eqv x y _ _ d e a b e1 e2, beq_dec]
  rfl
def okL (l : List Nat) : Bool := l.all (· < 0x110000)
theorem cl_sv {l : List Nat} (n : Nat) (h : okL l = true) : PV.cl (sv l) n = true := by
  show (S l).cps.all (· < 0x110000) = true
  rw [← Array.all_toList]
  simpa [okL] using h
theorem eq_sv (h : PHeap) (a b : List Nat) (p : okL a = true) (q : okL b = true) : eqV h (sv a) (sv b) = some (decide (a = b)) := by
  rw [eq_cl h _ _ (cl_sv _ p) (cl_sv _ q)]
  congr 1
  simp only [decide_eq_decide]
  constructor
  · intro e
    injection e with e
    exact SX.S_inj e
  · intro e; rw [e]
def posI : Option Nat → Int
  | some j => (j : Int)
  | none => -1
theorem find_sv (h : PHeap) (a : List Nat) (c : Nat) : bmV .find h (sv a) [sv [c]] = .ok (.int (posI (fnd c a))) h := by
  show Res.ok (PV.int (Txt.find (S a) (S [c]))) h = _
  rw [find_one]
  cases fnd c a <;> rfl
theorem find3_sv (h : PHeap) (a : List Nat) (c n : Nat) (hn : n ≤ a.length) : bmV .find3 h (sv a) [sv [c], .int (n : Int)] = .ok (.int (posI ((fnd c (a.drop n)).map (n + ·)))) h := by
  show Res.ok (PV.int (Txt.find3 (S a) (S [c]) n)) h = _
  rw [find3_one a c n hn]
  cases fnd c (a.drop n) <;> rfl
theorem index_sv (h : PHeap) (a : List Nat) (c : Nat) : bmV .index h (sv a) [sv [c]] = (match fnd c a with
    | some j => .ok (.int (j : Int)) h
    | none => .stuck) := by
  show lift ((Txt.index0 (S a) (S [c])).map fun (k : Nat) => PV.int k) h = _
  rw [index_one]
  cases fnd c a <;> rfl
theorem allStr_sv : ∀ ys : List (List Nat), allStr (ys.map sv) = some (ys.map S)
  | [] => rfl
  | y :: r => by
    show (allStr (r.map sv)).map (S y :: ·) = _
    rw [allStr_sv r]; rfl
theorem join_sv (h : PHeap) (v : PV) (ys : List (List Nat)) (e : asL h v = some (ys.map sv)) (q : ys.flatten.length ≤ 16777216) : bmV .join h (sv []) [v] = .ok (sv ys.flatten) h := by
  show joinV h (sv []) v = _
  unfold joinV
  show (match (asL h v).bind allStr with
    | some zs => if (zs.map Str.length).sum + zs.length * (S []).length ≤ 16777216 then Res.ok (PV.str (Txt.join (S []) zs)) h else .stuck
    | none => .stuck) = _
  rw [e]
  show (match allStr (ys.map sv) with
    | some zs => if (zs.map Str.length).sum + zs.length * (S []).length ≤ 16777216 then Res.ok (PV.str (Txt.join (S []) zs)) h else .stuck
    | none => .stuck) = _
  rw [allStr_sv]
  show (if ((ys.map S).map Str.length).sum + (ys.map S).length * (S []).length ≤ 16777216 then Res.ok (PV.str (Txt.join (S []) (ys.map S))) h else .stuck) = _
  rw [SX.lens, SX.join_S, join_nil, ← List.length_flatten, if_pos (by rw [show (S []).length = 0 from rfl, Nat.mul_zero, Nat.add_zero]; exact q)]
theorem in_sv (h : PHeap) (c : Nat) (b : List Nat) : inV h (sv [c]) (sv b) = some (decide (c ∈ b)) := rfl
theorem str_nat (n : Nat) (q : n.log2 < 1920) : strV (.int (n : Int)) = some (sv (TL.numL n)) := by
  unfold strV
  show (if ((n : Int)).natAbs.log2 < 1920 then _ else _) = _
  rw [Int.natAbs_natCast, if_pos q, SX.num_S]
theorem rjust_sv (h : PHeap) (a : List Nat) (n c : Nat) (p : PadOk (n : Int) = true) : bmV .rjust h (sv a) [.int (n : Int), sv [c]] = .ok (sv (List.replicate (n - a.length) c ++ a)) h := by
  show rjustV h (sv a) (.int (n : Int)) (sv [c]) = _
  unfold rjustV
  show (if PadOk (n : Int) = true ∧ (S [c]).length = 1 then Res.ok (PV.str (Txt.rjustF (S a) (n : Int) c)) h else .stuck) = _
  rw [if_pos ⟨p, rfl⟩]
  unfold Txt.rjustF
  rw [SX.S_len]
  congr 2
  split
  · rw [show n - a.length = 0 by omega]; rfl
  · unfold padded
    simp
end Fx
end
section
set_option Elab.async false
set_option linter.all false
set_option maxRecDepth 100000
set_option maxHeartbeats 4000000
/-! Fx, running the evaluator. -/
namespace Fx
open PySem
open SX (S)
open L2 (atI)
theorem stays_none (xs : List PV) (h : PHeap) : stays xs none h = true := rfl
theorem stays_ref {xs : List PV} {n : Nat} {h : PHeap} (e : h[n]? = some (.lst xs)) : stays xs (some n) h = true := by
  simp only [stays, e]
  exact PV.beqs_self xs
section
variable {cfg : Cfg} {call : Nat → List PV → PHeap → Res PV}
/-- a comprehension without tests -/
theorem compL_map {bind : PV → Option PSt} {tst : PSt → PHeap → Res Bool} {elt : PSt → PHeap → Res PV} {ok : PHeap → Bool} {h : PHeap} {g : PV → PV} : ∀ (items : List PV) (acc : List PV),
    (∀ acc, ok (h ++ [.lst acc]) = true) → (∀ x ∈ items, ∀ acc, ∃ σ1, bind x = some σ1 ∧ tst σ1 (h ++ [.lst acc]) = .ok true (h ++ [.lst acc]) ∧ elt σ1 (h ++ [.lst acc]) = .ok (g x) (h ++ [.lst acc])) →
    acc.length + items.length ≤ sizeLine → compL bind tst elt ok h.length items (h ++ [.lst acc]) = .ok () (h ++ [.lst (acc ++ items.map g)])
  | [], acc, hok, _, _ => by
    unfold compL
    rw [if_pos (hok acc)]
    simp
  | x :: r, acc, hok, hs, hl => by
    obtain ⟨σ1, e1, e2, e3⟩ := hs x (List.mem_cons_self ..) acc
    unfold compL
    rw [if_pos (hok acc), e1]
    simp only [e2, e3, bind_ok]
    have eg : (h ++ [Ob.lst acc])[h.length]? = some (.lst acc) := by simp
    rw [eg]
    simp only [List.length_cons] at hl
    have es : (h ++ [Ob.lst acc]).set h.length (.lst (acc ++ [g x])) = h ++ [.lst (acc ++ [g x])] := by simp
    simp only [es]
    rw [if_pos (by omega)]
    rw [compL_map r (acc ++ [g x]) hok (fun y hy => hs y (List.mem_cons_of_mem _ hy)) (by simp; omega)]
    simp
theorem ev_comp {elt : IE} {tg : ITg} {it : II} {own : List (Str × Nat)} {σ : PSt} {h : PHeap} {items : List PV} {w : Option Nat} (g : PV → PV) (hi : evI cfg call it σ h = .ok (items, w) h) (hok : ∀ acc, stays items w (h ++ [.lst acc]) = true)
    (he : ∀ x ∈ items, ∀ acc, ∃ σ1, bindT tg x (wipeP σ (own.map (·.2))) = some σ1 ∧ evE cfg call elt σ1 (h ++ [.lst acc]) = .ok (g x) (h ++ [.lst acc])) (hl : items.length ≤ sizeLine) (hu : ∀ x ∈ items, PV.under h.length (g x) = true) :
    evE cfg call (.comp elt tg it .nil own) σ h = .ok (.lst (items.map g)) h := by
  unfold evE
  rw [hi, bind_ok]
  have k := compL_map (bind := fun x => bindT tg x (wipeP σ (own.map (·.2)))) (tst := fun σ1 h2 => evT cfg call .nil σ1 h2) (elt := fun σ1 h2 => evE cfg call elt σ1 h2) (ok := stays items w) (h := h) (g := g) items [] hok (fun x hx acc => by
    obtain ⟨σ1, e1, e2⟩ := he x hx acc
    exact ⟨σ1, e1, by unfold evT; rfl, e2⟩) (by simpa using hl)
  simp only [k, calm_ok, bind_ok, List.nil_append]
  unfold compR
  have eg : (h ++ [Ob.lst (items.map g)])[h.length]? = some (.lst (items.map g)) := by simp
  rw [eg]
  have us : ∀ l : List PV, (∀ x ∈ l, PV.under h.length (g x) = true) → PV.unders h.length (l.map g) = true := by
    intro l
    induction l with
    | nil => intro _; rfl
    | cons a r ih =>
      intro q
      show (PV.under h.length (g a) && PV.unders h.length (r.map g)) = true
      rw [q a (List.mem_cons_self ..), ih fun x hx => q x (List.mem_cons_of_mem _ hx)]
      rfl
  show (if (heapEq (h ++ [Ob.lst (items.map g)]) (h ++ [Ob.lst (items.map g)]) && PV.unders h.length (items.map g)) = true then _ else _) = _
  rw [heapEq_self, us items hu]
  rfl
/-- a for loop: P i holds ahead of turn i -/
theorem forL_inv {bind : PV → PSt → Option PSt} {body : PSt → PHeap → SRes} {ok : PHeap → Bool} {items : List PV} {σ : PSt} {h : PHeap} (P : Nat → PSt → PHeap → Prop) (hok : ∀ i σ h, P i σ h → ok h = true) (h0 : P 0 σ h)
    (hs : ∀ i x σ h, items[i]? = some x → P i σ h → ∃ σ1, bind x σ = some σ1 ∧ ∃ σ2 h2, (body σ1 h = .next σ2 h2 ∨ body σ1 h = .cont σ2 h2) ∧ P (i + 1) σ2 h2) : ∃ σ' h', forL bind body ok items σ h = .next σ' h' ∧ P items.length σ' h' := by
  have main : ∀ (r : List PV) (i : Nat) (σ : PSt) (h : PHeap), items.drop i = r → i ≤ items.length → P i σ h → ∃ σ' h', forL bind body ok r σ h = .next σ' h' ∧ P items.length σ' h' := by
    intro r
    induction r with
    | nil =>
      intro i σ h e hi p
      have : i = items.length := by
        have := congrArg List.length e
        simp at this
        omega
      subst this
      refine ⟨σ, h, ?_, p⟩
      unfold forL
      rw [if_pos (hok _ _ _ p)]
    | cons x r ih =>
      intro i σ h e hi p
      have hx : items[i]? = some x := by
        have : (items.drop i)[0]? = some x := by rw [e]; rfl
        rw [List.getElem?_drop] at this
        simpa using this
      have hlt : i < items.length := (List.getElem?_eq_some_iff.mp hx).1
      have hr : items.drop (i + 1) = r := by
        have : (items.drop i).tail = r := by rw [e]; rfl
        rw [← this, List.tail_drop]
      obtain ⟨σ1, e1, σ2, h2, e2, p2⟩ := hs i x σ h hx p
      obtain ⟨σ', h', e3, p3⟩ := ih (i + 1) σ2 h2 hr hlt p2
      refine ⟨σ', h', ?_, p3⟩
      unfold forL
      rw [if_pos (hok _ _ _ p), e1]
      rcases e2 with e2 | e2
      · simp only [e2]; exact e3
      · simp only [e2]; exact e3
  exact main items 0 σ h (List.drop_zero ..) (Nat.zero_le _) h0
end
@[irreducible] def Bx (o : Option PSt) (Q : PSt → Prop) : Prop := match o with
  | some σ => Q σ
  | none => False
@[irreducible] def Nx (r : SRes) (Q : PSt → PHeap → Prop) : Prop := match r with
  | .next σ h => Q σ h
  | .cont σ h => Q σ h
  | _ => False
theorem bx (σ : PSt) (Q : PSt → Prop) : Bx (some σ) Q = Q σ := by unfold Bx; rfl
theorem nx (σ : PSt) (h : PHeap) (Q : PSt → PHeap → Prop) : Nx (.next σ h) Q = Q σ h := by unfold Nx; rfl
theorem nxc (σ : PSt) (h : PHeap) (Q : PSt → PHeap → Prop) : Nx (.cont σ h) Q = Q σ h := by unfold Nx; rfl
theorem Nx.of {r : SRes} {Q : PSt → PHeap → Prop} (n : Nx r Q) : ∃ σ2 h2, (r = .next σ2 h2 ∨ r = .cont σ2 h2) ∧ Q σ2 h2 := by
  unfold Nx at n
  cases r with
  | next σ h => exact ⟨σ, h, .inl rfl, n⟩
  | cont σ h => exact ⟨σ, h, .inr rfl, n⟩
  | _ => exact n.elim
theorem for_q {bind : PV → PSt → Option PSt} {body : PSt → PHeap → SRes} {ok : PHeap → Bool} {items : List PV} {σ : PSt} {h : PHeap} {q : SRes} (hq : forL bind body ok items σ h = q) (P : Nat → PSt → PHeap → Prop) (hok : ∀ i σ h, P i σ h → ok h = true) (h0 : P 0 σ h)
    (hs : ∀ i x σ h, items[i]? = some x → P i σ h → Bx (bind x σ) fun σ1 => Nx (body σ1 h) (P (i + 1))) : ∃ σ' h', q = .next σ' h' ∧ P items.length σ' h' := by
  rw [← hq]
  refine forL_inv P hok h0 fun i x σ h e p => ?_
  have z := hs i x σ h e p
  unfold Bx at z
  cases eb : bind x σ with
  | none => rw [eb] at z; exact z.elim
  | some σ1 =>
    rw [eb] at z
    exact ⟨σ1, rfl, Nx.of z⟩
theorem enumL_at (xs : List PV) : ∀ (n i : Nat), (enumL n xs)[i]? = xs[i]?.map fun x => PV.tup [.int ((n + i : Nat) : Int), x] := by
  induction xs with
  | nil => intro n i; rfl
  | cons a r ih =>
    intro n i
    cases i with
    | zero => rfl
    | succ i =>
      show (enumL (n + 1) r)[i]? = r[i]?.map _
      rw [ih, show n + 1 + i = n + (i + 1) by omega]
theorem enumL_n (xs : List PV) : ∀ n : Nat, (enumL n xs).length = xs.length := by
  induction xs with
  | nil => intro n; rfl
  | cons a r ih => intro n; show (enumL (n + 1) r).length + 1 = _; rw [ih]; rfl
theorem rangeL_at (n i : Nat) (x : PV) (e : (rangeL 0 n)[i]? = some x) : x = .int (i : Int) ∧ i < n := by
  unfold rangeL at e
  rw [List.getElem?_map] at e
  obtain ⟨j, e1, e2⟩ := Option.map_eq_some_iff.mp e
  obtain ⟨hl, ej⟩ := List.getElem?_eq_some_iff.mp e1
  rw [List.getElem_range] at ej
  subst ej
  rw [← e2]
  exact ⟨by simp, by simpa using hl⟩
theorem rangeL_n (n : Nat) : (rangeL 0 n).length = n := by simp [rangeL]
@[irreducible] def Tx (r : Res Bool) (Q : Bool → PHeap → Prop) : Prop := match r with
  | .ok b h => Q b h
  | _ => False
@[irreducible] def Ny (r : SRes) (N : PSt → PHeap → Prop) (Q : SRes → Prop) : Prop := match r with
  | .next σ h => N σ h
  | .cont σ h => N σ h
  | .brk σ h => Q (.next σ h)
  | .stuck => False
  | r => Q r
theorem tx (b : Bool) (h : PHeap) (Q : Bool → PHeap → Prop) : Tx (.ok b h) Q = Q b h := by unfold Tx; rfl
theorem ny_next (σ : PSt) (h : PHeap) (N : PSt → PHeap → Prop) (Q : SRes → Prop) : Ny (.next σ h) N Q = N σ h := by unfold Ny; rfl
theorem ny_cont (σ : PSt) (h : PHeap) (N : PSt → PHeap → Prop) (Q : SRes → Prop) : Ny (.cont σ h) N Q = N σ h := by unfold Ny; rfl
theorem ny_brk (σ : PSt) (h : PHeap) (N : PSt → PHeap → Prop) (Q : SRes → Prop) : Ny (.brk σ h) N Q = Q (.next σ h) := by unfold Ny; rfl
theorem ny_ret (v : PV) (h : PHeap) (N : PSt → PHeap → Prop) (Q : SRes → Prop) : Ny (.ret v h) N Q = Q (.ret v h) := by unfold Ny; rfl
theorem ny_exc (c : Nat) (σ : PSt) (h : PHeap) (N : PSt → PHeap → Prop) (Q : SRes → Prop) : Ny (.exc c σ h) N Q = Q (.exc c σ h) := by unfold Ny; rfl
/-- a while loop: P m holds ahead of a turn, m turns at most are left -/
theorem while_q {test : PSt → PHeap → Res Bool} {body : PSt → PHeap → SRes} {m : Nat} {σ : PSt} {h : PHeap} {q : SRes} (hq : whileL test body m σ h = q) (P : Nat → PSt → PHeap → Prop) (Q : SRes → Prop) (h0 : P m σ h) (hz : ∀ σ h, ¬ P 0 σ h)
    (hs : ∀ m σ h, P (m + 1) σ h → Tx (test σ h) fun b h1 => (b = true → Ny (body σ h1) (P m) Q) ∧ (b = false → Q (.next σ h1))) : Q q := by
  rw [← hq]
  clear hq
  induction m generalizing σ h with
  | zero => exact absurd h0 (hz σ h)
  | succ m ih =>
    have z := hs m σ h h0
    unfold Tx at z
    unfold whileL
    cases et : test σ h with
    | stuck => rw [et] at z; exact z.elim
    | exc c h1 => rw [et] at z; exact z.elim
    | ok b h1 =>
      rw [et] at z
      obtain ⟨z1, z2⟩ := z
      cases b with
      | false => exact z2 rfl
      | true =>
        have z1 := z1 rfl
        unfold Ny at z1
        simp only
        cases eb : body σ h1 with
        | next σ2 h2 => rw [eb] at z1; exact ih z1
        | cont σ2 h2 => rw [eb] at z1; exact ih z1
        | brk σ2 h2 => rw [eb] at z1; exact z1
        | stuck => rw [eb] at z1; exact z1.elim
        | ret v h2 => rw [eb] at z1; exact z1
        | exc c σ2 h2 => rw [eb] at z1; exact z1
theorem mapM_pure {f n : Nat} {h : PHeap} : ∀ {xs : List PV}, PV.pures xs = true → xs.mapM (frz (f + 1) n h) = some xs
  | [], _ => rfl
  | x :: r, p => by
    simp only [PV.pures, Bool.and_eq_true] at p
    rw [List.mapM_cons, frz_pure p.1, mapM_pure p.2]
    rfl
theorem exit_list {h : PHeap} {xs : List PV} (p : PV.pures xs = true) : exitR h (.ret (.ref h.length) (h ++ [.lst xs])) = .ok (.lst xs) h := by
  show (if heapEq ((h ++ [Ob.lst xs]).take h.length) h = true then _ else _) = _
  rw [if_pos (heapEq_app h _)]
  have e : frz 9 h.length (h ++ [Ob.lst xs]) (.ref h.length) = some (.lst xs) := by
    unfold frz
    rw [if_neg (fun z => by cases z)]
    show (if h.length < h.length then _ else _) = _
    rw [if_neg (Nat.lt_irrefl _)]
    have : (h ++ [Ob.lst xs])[h.length]? = some (.lst xs) := by simp
    simp only [this]
    rw [mapM_pure p]; rfl
  rw [e]
theorem run_succ {cfg : Cfg} {f : Nat} {F : FnI} (e : cfg.fns f = some F) (k : Nat) (vs : List PV) (h : PHeap) (hl : vs.length = F.params.length) : run cfg (k + 1) f vs h = exitR h (evSs cfg (run cfg k) F.body (startP F.N vs) h) := by
  show (match cfg.fns f with
    | none => _
    | some F => _) = _
  rw [e]
  exact if_pos hl
theorem exit_ret_pure {h : PHeap} {v : PV} (g : PHeap) (p : PV.pure v = true) : exitR h (.ret v (h ++ g)) = .ok v h := by
  show (if heapEq ((h ++ g).take h.length) h = true then _ else _) = _
  rw [if_pos (heapEq_app h g), frz_pure p]
theorem exit_ret0 {h : PHeap} {v : PV} (p : PV.pure v = true) : exitR h (.ret v h) = .ok v h := by
  have := exit_ret_pure (h := h) [] p
  rwa [List.append_nil] at this
theorem exit_next0 {h : PHeap} {σ : PSt} : exitR h (.next σ h) = .ok .non h := by
  show (if heapEq (h.take h.length) h = true then _ else _) = _
  rw [List.take_length, heapEq_self]; rfl
theorem exit_exc0 {h : PHeap} {σ : PSt} {c : Nat} : exitR h (.exc c σ h) = .exc c h := by
  show (if heapEq (h.take h.length) h = true then _ else _) = _
  rw [List.take_length, heapEq_self]; rfl
end Fx
end
section
set_option Elab.async false
set_option linter.all false
set_option maxRecDepth 100000
set_option maxHeartbeats 4000000
/-! Fx, the evaluator's equations, one by one. -/
namespace Fx
open PySem
open SX (S)
open L2 (atI)
def rg1 (j : Int) (h1 : PHeap) : Res (List PV × Option Nat) := if -(2 ^ 62) ≤ j ∧ j < 2 ^ 62 then .ok (rangeL 0 j.toNat, none) h1 else .stuck
def rg2 (i j : Int) (h2 : PHeap) : Res (List PV × Option Nat) := if -(2 ^ 62) ≤ i ∧ i < 2 ^ 62 ∧ -(2 ^ 62) ≤ j ∧ j < 2 ^ 62 then .ok (rangeL i (j - i).toNat, none) h2 else .stuck
theorem rg1_ok (j : Int) (h : PHeap) (q : -4611686018427387904 ≤ j ∧ j < 4611686018427387904) : rg1 j h = .ok (rangeL 0 j.toNat, none) h := if_pos q
theorem rg2_ok (i j : Int) (h : PHeap) (q : (-4611686018427387904 ≤ i ∧ i < 4611686018427387904) ∧ -4611686018427387904 ≤ j ∧ j < 4611686018427387904) : rg2 i j h = .ok (rangeL i (j - i).toNat, none) h := if_pos ⟨q.1.1, q.1.2, q.2.1, q.2.2⟩
theorem line24 : sizeLine = 16777216 := by decide
section
variable {cfg : Cfg} {call : Nat → List PV → PHeap → Res PV} {σ : PSt} {h : PHeap}
theorem x_var (i : Nat) : evE cfg call (.var i) σ h = (match σ[i]? with
    | some (some v) => .ok v h
    | _ => .stuck) := by unfold evE; rfl
theorem x_int (i : Int) : evE cfg call (.int i) σ h = .ok (.int i) h := by unfold evE; rfl
theorem x_str (s : Str) : evE cfg call (.str s) σ h = .ok (.str s) h := by unfold evE; rfl
theorem x_lit (s : String) : evE cfg call (.str (PySem.Str.ofString s)) σ h = .ok (sv (L s)) h := by rw [x_str, of_lit]
theorem x_bl (s : Bool) : evE cfg call (.bl s) σ h = .ok (.bl s) h := by unfold evE; rfl
theorem x_non : evE cfg call .non σ h = .ok .non h := by unfold evE; rfl
theorem x_glob {g : Nat} {x : Str} {v : PV} (e : cfg.globs g = some (x, v)) : evE cfg call (.glob g) σ h = .ok v h := by unfold evE; rw [e]
theorem x_bin (op : Operator) (a b : IE) : evE cfg call (.bin op a b) σ h = (evE cfg call a σ h).bind fun x h1 => (evE cfg call b σ h1).bind fun y h2 => lift (binV op h2 x y) h2 := by (conv => lhs; unfold evE) <;> rfl
theorem x_neg (a : IE) : evE cfg call (.neg a) σ h = (evE cfg call a σ h).bind fun x h1 => match x with
    | .int i => .ok (.int (-i)) h1
    | _ => .stuck := by (conv => lhs; unfold evE) <;> rfl
theorem x_cmp (op : CmpOp) (a b : IE) : evE cfg call (.cmp op a b) σ h = (evE cfg call a σ h).bind fun x h1 => (evE cfg call b σ h1).bind fun y h2 => lift ((cmpV op h2 x y).map .bl) h2 := by (conv => lhs; unfold evE) <;> rfl
theorem x_chain (op op' : CmpOp) (a b c : IE) : evE cfg call (.chain op op' a b c) σ h = (evE cfg call a σ h).bind fun x h1 => (evE cfg call b σ h1).bind fun y h2 => (lift (cmpV op h2 x y) h2).bind fun k h3 => match k with
    | true => (evE cfg call c σ h3).bind fun z h4 => lift ((cmpV op' h4 y z).map .bl) h4
    | false => .ok (.bl false) h3 := by (conv => lhs; unfold evE) <;> rfl
theorem x_bool (op : BoolOp) (xs : IEs) : evE cfg call (.bool op xs) σ h = evB cfg call op xs σ h := by (conv => lhs; unfold evE) <;> rfl
theorem x_not (a : IE) : evE cfg call (.not a) σ h = (evE cfg call a σ h).bind fun x h1 => match x with
    | .bl b => .ok (.bl (!b)) h1
    | _ => .stuck := by (conv => lhs; unfold evE) <;> rfl
theorem x_ite (c a b : IE) : evE cfg call (.ite c a b) σ h = (truR (evE cfg call c σ h)).bind fun k h1 => match k with
    | true => evE cfg call a σ h1
    | false => evE cfg call b σ h1 := by (conv => lhs; unfold evE) <;> rfl
theorem x_call (f : Nat) (args : IEs) : evE cfg call (.call f args) σ h = (evEs cfg call args σ h).bind fun vs h1 => call f vs h1 := by (conv => lhs; unfold evE) <;> rfl
theorem x_bcall (f : BF) (args : IEs) : evE cfg call (.bcall f args) σ h = (evEs cfg call args σ h).bind fun vs h1 => lift (bfV f h1 vs) h1 := by (conv => lhs; unfold evE) <;> rfl
theorem x_isi (a : IE) (t : IsT) : evE cfg call (.isi a t) σ h = (evE cfg call a σ h).bind fun x h1 => lift ((isV t x).map .bl) h1 := by (conv => lhs; unfold evE) <;> rfl
theorem x_meth (m : BM) (o : IE) (args : IEs) : evE cfg call (.meth m o args) σ h = (evE cfg call o σ h).bind fun x h1 => if rcv m h1 x then (evEs cfg call args σ h1).bind fun vs h2 => bmV m h2 x vs else .stuck := by (conv => lhs; unfold evE) <;> rfl
theorem x_tup (xs : IEs) : evE cfg call (.tup xs) σ h = (evEs cfg call xs σ h).bind fun vs h1 => .ok (.tup vs) h1 := by (conv => lhs; unfold evE) <;> rfl
theorem x_listT (xs : IEs) : evE cfg call (.list true xs) σ h = (evEs cfg call xs σ h).bind fun vs h1 => .ok (.ref h1.length) (h1 ++ [.lst vs]) := by (conv => lhs; unfold evE) <;> rfl
theorem x_listF (xs : IEs) : evE cfg call (.list false xs) σ h = (evEs cfg call xs σ h).bind fun vs h1 => .ok (.lst vs) h1 := by (conv => lhs; unfold evE) <;> rfl
theorem x_sub (a i : IE) : evE cfg call (.sub a i) σ h = (evE cfg call a σ h).bind fun x h1 => (evE cfg call i σ h1).bind fun y h2 => lift (subsV h2 x y) h2 := by (conv => lhs; unfold evE) <;> rfl
theorem x_slice (a : IE) (lo hi : IO) : evE cfg call (.slice a lo hi) σ h = (evE cfg call a σ h).bind fun x h1 => (evO cfg call lo σ h1).bind fun l h2 => (evO cfg call hi σ h2).bind fun u h3 => lift (sliceV h3 x l u) h3 := by (conv => lhs; unfold evE) <;> rfl
theorem x_nil : evEs cfg call .nil σ h = .ok [] h := by unfold evEs; rfl
theorem x_cons (a : IE) (r : IEs) : evEs cfg call (.cons a r) σ h = (evE cfg call a σ h).bind fun v h1 => (evEs cfg call r σ h1).bind fun vs h2 => .ok (v :: vs) h2 := by (conv => lhs; unfold evEs) <;> rfl
theorem x_onone : evO cfg call .none σ h = .ok none h := by unfold evO; rfl
theorem x_osome (e : IE) : evO cfg call (.some e) σ h = (evE cfg call e σ h).bind fun v h1 => match v with
    | .int i => .ok (some i) h1
    | _ => .stuck := by (conv => lhs; unfold evO) <;> rfl
theorem x_tnil : evT cfg call .nil σ h = .ok true h := by unfold evT; rfl
theorem x_tcons (a : IE) : evT cfg call (.cons a .nil) σ h = truR (evE cfg call a σ h) := by (conv => lhs; unfold evT) <;> rfl
theorem x_b1 (op : BoolOp) (a : IE) : evB cfg call op (.cons a .nil) σ h = (evE cfg call a σ h).bind fun v h1 => match v with
    | .bl b => .ok (.bl b) h1
    | _ => .stuck := by (conv => lhs; unfold evB) <;> rfl
theorem x_and (a b : IE) (r : IEs) : evB cfg call .And (.cons a (.cons b r)) σ h = (evE cfg call a σ h).bind fun v h1 => match v with
    | .bl true => evB cfg call .And (.cons b r) σ h1
    | .bl false => .ok (.bl false) h1
    | _ => .stuck := by
  conv => lhs; unfold evB
  cases evE cfg call a σ h with
  | ok v h1 => cases v with
    | bl b => cases b <;> rfl
    | _ => rfl
  | _ => rfl
theorem x_or (a b : IE) (r : IEs) : evB cfg call .Or (.cons a (.cons b r)) σ h = (evE cfg call a σ h).bind fun v h1 => match v with
    | .bl false => evB cfg call .Or (.cons b r) σ h1
    | .bl true => .ok (.bl true) h1
    | _ => .stuck := by
  conv => lhs; unfold evB
  cases evE cfg call a σ h with
  | ok v h1 => cases v with
    | bl b => cases b <;> rfl
    | _ => rfl
  | _ => rfl
theorem x_seq (e : IE) : evI cfg call (.seq e) σ h = (evE cfg call e σ h).bind fun v h1 => lift (seqL h1 v) h1 := by (conv => lhs; unfold evI) <;> rfl
theorem x_range1 (a : IE) : evI cfg call (.range1 a) σ h = (evE cfg call a σ h).bind fun v h1 => match v with
    | .int j => rg1 j h1
    | _ => .stuck := by (conv => lhs; unfold evI) <;> rfl
theorem x_range2 (a b : IE) : evI cfg call (.range2 a b) σ h = (evE cfg call a σ h).bind fun v h1 => (evE cfg call b σ h1).bind fun u h2 => match v, u with
    | .int i, .int j => rg2 i j h2
    | _, _ => .stuck := by (conv => lhs; unfold evI) <;> rfl
theorem x_enum (e : IE) : evI cfg call (.enum e) σ h = (evE cfg call e σ h).bind fun v h1 => (lift (seqL h1 v) h1).bind fun w h2 => match w.2 with
    | none => .ok (enumL 0 w.1, none) h2
    | some _ => .stuck := by (conv => lhs; unfold evI) <;> rfl
/-! statements -/
theorem s_nil : evSs cfg call .nil σ h = .next σ h := by unfold evSs; rfl
theorem s_cons (s : IS) (r : ISs) : evSs cfg call (.cons s r) σ h = (match evS cfg call s σ h with
    | .next σ1 h1 => evSs cfg call r σ1 h1
    | x => x) := by (conv => lhs; unfold evSs) <;> rfl
theorem s_expr (e : IE) : evS cfg call (.expr e) σ h = (match evE cfg call e σ h with
    | .ok _ h1 => .next σ h1
    | .exc c h1 => .exc c σ h1
    | .stuck => .stuck) := by (conv => lhs; unfold evS) <;> rfl
theorem s_ret (e : IE) : evS cfg call (.ret e) σ h = (match evE cfg call e σ h with
    | .ok v h1 => .ret v h1
    | .exc c h1 => .exc c σ h1
    | .stuck => .stuck) := by (conv => lhs; unfold evS) <;> rfl
theorem s_retN : evS cfg call .retN σ h = .ret .non h := by unfold evS; rfl
theorem s_asg (t : ITg) (e : IE) : evS cfg call (.asg t e) σ h = (match evE cfg call e σ h with
    | .ok v h1 => (match bindT t v σ with
      | some σ1 => .next σ1 h1
      | none => .stuck)
    | .exc c h1 => .exc c σ h1
    | .stuck => .stuck) := by (conv => lhs; unfold evS) <;> rfl
theorem s_par (i j : Nat) (a b : IE) : evS cfg call (.par i j a b) σ h = (match (evE cfg call a σ h).bind fun x h1 => (evE cfg call b σ h1).bind fun y h2 => .ok (x, y) h2 with
    | .ok v h1 => .next ((σ.set i (some v.1)).set j (some v.2)) h1
    | .exc c h1 => .exc c σ h1
    | .stuck => .stuck) := by (conv => lhs; unfold evS) <;> rfl
theorem s_aug (op : Operator) (i : Nat) (e : IE) : evS cfg call (.aug op i e) σ h = (match σ[i]? with
    | some (some x) => (match evE cfg call e σ h with
      | .ok y h1 => (match augV op x y with
        | some z => .next (σ.set i (some z)) h1
        | none => .stuck)
      | .exc c h1 => .exc c σ h1
      | .stuck => .stuck)
    | _ => .stuck) := by (conv => lhs; unfold evS) <;> rfl
theorem s_if (c : IE) (a b : ISs) : evS cfg call (.ifS c a b) σ h = (match truR (evE cfg call c σ h) with
    | .ok true h1 => evSs cfg call a σ h1
    | .ok false h1 => evSs cfg call b σ h1
    | .exc c h1 => .exc c σ h1
    | .stuck => .stuck) := by (conv => lhs; unfold evS) <;> rfl
theorem s_for (t : ITg) (it : II) (body : ISs) : evS cfg call (.forS t it body) σ h = (match evI cfg call it σ h with
    | .ok w h1 => forL (bindT t) (fun σ1 h2 => evSs cfg call body σ1 h2) (stays w.1 w.2) w.1 σ h1
    | .exc c h1 => .exc c σ h1
    | .stuck => .stuck) := by (conv => lhs; unfold evS) <;> rfl
theorem s_while (c : IE) (body : ISs) : evS cfg call (.whileS c body) σ h = whileL (fun σ1 h1 => truR (evE cfg call c σ1 h1)) (fun σ1 h1 => evSs cfg call body σ1 h1) cfg.fuel σ h := by (conv => lhs; unfold evS) <;> rfl
theorem s_raise (c : Nat) (m : Str) : evS cfg call (.raise c m) σ h = .exc c σ h := by unfold evS; rfl
theorem s_try (body : ISs) (hs : IHs) : evS cfg call (.tryS body hs) σ h = (match evSs cfg call body σ h with
    | .exc c σ1 h1 => evH cfg call c hs σ1 h1
    | x => x) := by (conv => lhs; unfold evS) <;> rfl
theorem s_pass : evS cfg call .pass σ h = .next σ h := by unfold evS; rfl
theorem s_brk : evS cfg call .brk σ h = .brk σ h := by unfold evS; rfl
theorem s_cont : evS cfg call .cont σ h = .cont σ h := by unfold evS; rfl
theorem h_nil (c : Nat) : evH cfg call c .nil σ h = .exc c σ h := by unfold evH; rfl
theorem h_cons (c c' : Nat) (s : ISs) (r : IHs) : evH cfg call c (.cons c' s r) σ h = if (cfg.excs c).isSome = true then (if cfg.sub c c' then (evSs cfg call s σ h).calm else evH cfg call c r σ h) else .stuck := by (conv => lhs; unfold evH) <;> rfl
end
theorem tru_bl (h : PHeap) (b : Bool) : truR (.ok (.bl b) h) = .ok b h := id rfl
theorem b_add (h : PHeap) (x y : PV) : binV .Add h x y = addV h x y := id rfl
theorem b_sub (h : PHeap) (i j : Int) : binV .Sub h (.int i) (.int j) = some (.int (i - j)) := id rfl
theorem b_addI (h : PHeap) (i j : Int) : addV h (.int i) (.int j) = some (.int (i + j)) := id rfl
theorem b_mulI (h : PHeap) (i j : Int) (q : (-18446744073709551616 < i ∧ i < 18446744073709551616) ∨ (-18446744073709551616 < j ∧ j < 18446744073709551616)) : binV .Mult h (.int i) (.int j) = some (.int (i * j)) := if_pos q
theorem b_mod (h : PHeap) (i j : Int) (q : 0 < j) : binV .Mod h (.int i) (.int j) = some (.int (i % j)) := if_pos q
theorem b_fdiv (h : PHeap) (i j : Int) (q : 0 < j ∧ j < 1073741824) : binV .FloorDiv h (.int i) (.int j) = some (.int (i / j)) := if_pos q
theorem a_addI (i j : Int) : augV .Add (.int i) (.int j) = some (.int (i + j)) := id rfl
theorem a_subI (i j : Int) : augV .Sub (.int i) (.int j) = some (.int (i - j)) := id rfl
theorem c_eq (h : PHeap) (x y : PV) : cmpV .Eq h x y = eqV h x y := id rfl
theorem c_ne (h : PHeap) (x y : PV) : cmpV .NotEq h x y = (eqV h x y).map (!·) := id rfl
theorem c_lt (h : PHeap) (i j : Int) : cmpV .Lt h (.int i) (.int j) = some (decide (i < j)) := id rfl
theorem c_le (h : PHeap) (i j : Int) : cmpV .LtE h (.int i) (.int j) = some (decide (i ≤ j)) := id rfl
theorem c_gt (h : PHeap) (i j : Int) : cmpV .Gt h (.int i) (.int j) = some (decide (j < i)) := id rfl
theorem c_ge (h : PHeap) (i j : Int) : cmpV .GtE h (.int i) (.int j) = some (decide (j ≤ i)) := id rfl
theorem c_in (h : PHeap) (x y : PV) : cmpV .In h x y = inV h x y := id rfl
theorem c_nin (h : PHeap) (x y : PV) : cmpV .NotIn h x y = (inV h x y).map (!·) := id rfl
theorem c_isN (h : PHeap) (x : PV) : cmpV .Is h x .non = some (match x with | .non => true | _ => false) := id rfl
theorem c_isnotN (h : PHeap) (x : PV) : cmpV .IsNot h x .non = some (match x with | .non => false | _ => true) := id rfl
theorem eq_int (h : PHeap) (i j : Int) : eqV h (.int i) (.int j) = some (decide (i = j)) := by
  rw [eq_cl h _ _ rfl rfl]
  congr 1
  simp
theorem bindN (i : Nat) (v : PV) (σ : PSt) : bindT (.name i) v σ = some (σ.set i (some v)) := id rfl
theorem bindTp (is : List Nat) (vs : List PV) (σ : PSt) : bindT (.tup is) (.tup vs) σ = setAll is vs σ := id rfl
theorem setA0 (σ : PSt) : setAll [] [] σ = some σ := id rfl
theorem setA1 (i : Nat) (is : List Nat) (v : PV) (vs : List PV) (σ : PSt) : setAll (i :: is) (v :: vs) σ = setAll is vs (σ.set i (some v)) := id rfl
theorem omap {α β : Type} (f : α → β) (a : α) : (some a).map f = some (f a) := id rfl
theorem r_index (h : PHeap) (s : Str) : rcv .index h (.str s) = true := id rfl
theorem r_rjust (h : PHeap) (s : Str) : rcv .rjust h (.str s) = true := id rfl
theorem r_find (h : PHeap) (s : Str) : rcv .find h (.str s) = true := id rfl
theorem r_find3 (h : PHeap) (s : Str) : rcv .find3 h (.str s) = true := id rfl
theorem r_join (h : PHeap) (s : Str) : rcv .join h (.str s) = true := id rfl
theorem r_append {h : PHeap} {n : Nat} {xs : List PV} (e : h[n]? = some (.lst xs)) : rcv .append h (.ref n) = true := by
  show (match h[n]? with
    | some (.lst _) => true
    | none => false) = true
  rw [e]
theorem len_app (h : PHeap) (acc : List PV) : bfV .len (h ++ [.lst acc]) [.ref h.length] = some (.int (acc.length : Nat)) := by
  show (asL (h ++ [Ob.lst acc]) (.ref h.length)).map _ = _
  have : (h ++ [Ob.lst acc])[h.length]? = some (.lst acc) := by simp
  unfold asL
  simp only [this]; rfl
theorem len_lst (h : PHeap) (xs : List PV) : bfV .len h [.lst xs] = some (.int (xs.length : Nat)) := id rfl
theorem len_tup (h : PHeap) (xs : List PV) : bfV .len h [.tup xs] = some (.int (xs.length : Nat)) := id rfl
theorem tuple_lst (h : PHeap) (xs : List PV) : bfV .tuple h [.lst xs] = some (.tup xs) := id rfl
theorem r_app (h : PHeap) (acc : List PV) : rcv .append (h ++ [.lst acc]) (.ref h.length) = true := r_append (xs := acc) (by simp)
theorem append_app (h : PHeap) (acc : List PV) (v : PV) (q : acc.length < 16777216) : bmV .append (h ++ [.lst acc]) (.ref h.length) [v] = .ok .non (h ++ [.lst (acc ++ [v])]) := by
  show appendV (h ++ [Ob.lst acc]) (.ref h.length) v = _
  have : (h ++ [Ob.lst acc])[h.length]? = some (.lst acc) := by simp
  unfold appendV
  simp only [this]
  rw [if_pos (by rw [line24]; exact q)]
  simp
theorem add_tup (h : PHeap) (xs ys : List PV) (q : xs.length + ys.length ≤ 16777216) : addV h (.tup xs) (.tup ys) = some (.tup (xs ++ ys)) := by
  show (if xs.length + ys.length ≤ sizeLine then some (PV.tup (xs ++ ys)) else none) = _
  rw [if_pos (by rw [line24]; exact q)]
theorem add_lst (h : PHeap) (xs ys : List PV) (q : xs.length + ys.length ≤ 16777216) : addV h (.lst xs) (.lst ys) = some (.lst (xs ++ ys)) := by
  show (if xs.length + ys.length ≤ sizeLine then some (PV.lst (xs ++ ys)) else none) = _
  rw [if_pos (by rw [line24]; exact q)]
theorem sub_tup (h : PHeap) (xs : List PV) (i : Int) : subsV h (.tup xs) (.int i) = atI xs i := id rfl
theorem sub_lst (h : PHeap) (xs : List PV) (i : Int) : subsV h (.lst xs) (.int i) = atI xs i := id rfl
theorem slice_tup (h : PHeap) (xs : List PV) (a b : Option Int) : sliceV h (.tup xs) a b = some (.tup (cutP xs a b)) := id rfl
theorem slice_lst (h : PHeap) (xs : List PV) (a b : Option Int) : sliceV h (.lst xs) a b = some (.lst (cutP xs a b)) := id rfl
theorem at_0 {α : Type} (a : α) (r : List α) : atI (a :: r) 0 = some a := atI_nat (a :: r) 0
theorem at_1 {α : Type} (a b : α) (r : List α) : atI (a :: b :: r) 1 = some b := atI_nat (a :: b :: r) 1
theorem at_2 {α : Type} (a b c : α) (r : List α) : atI (a :: b :: c :: r) 2 = some c := atI_nat (a :: b :: c :: r) 2
theorem at_3 {α : Type} (a b c d : α) (r : List α) : atI (a :: b :: c :: d :: r) 3 = some d := atI_nat (a :: b :: c :: d :: r) 3
theorem at_m1 {α : Type} (xs : List α) : atI xs (-1) = xs.getLast? := by
  unfold atI L2.ixN
  rw [if_neg (by decide)]
  cases xs with
  | nil => rfl
  | cons a r =>
    rw [if_pos (by simp; omega)]
    show (a :: r)[(-1 + ((r.length + 1 : Nat) : Int)).toNat]? = _
    rw [List.getLast?_eq_getElem?, show (-1 + ((r.length + 1 : Nat) : Int)).toNat = (a :: r).length - 1 by simp; omega]
theorem int_int (h : PHeap) (i : Int) : bfV .int h [.int i] = some (.int i) := id rfl
theorem abs_int (h : PHeap) (i : Int) : bfV .abs h [.int i] = some (.int (if i < 0 then -i else i)) := id rfl
theorem min_int (h : PHeap) (i j : Int) : bfV .min h [.int i, .int j] = some (.int (if j < i then j else i)) := id rfl
theorem max_int (h : PHeap) (i j : Int) : bfV .max h [.int i, .int j] = some (.int (if j > i then j else i)) := id rfl
theorem slice_scr (h : PHeap) (ns : List Int) (a b : Option Int) : sliceV h (.scr ns) a b = some (.lst ((cutP ns a b).map .int)) := id rfl
end Fx
end
section
set_option Elab.async false
set_option linter.all false
set_option maxRecDepth 100000
set_option maxHeartbeats 16000000
namespace M_leaves
open PySem Fx
def f_are_words : FnI := ⟨(PySem.Str.ofString "are_words"), [(PySem.Str.ofString "value")], [(PySem.Str.ofString "value"), (PySem.Str.ofString "sign")],
  (.cons (.ret (.bool .And (.cons (.isi (.var 0) .str) (.cons (.chain .LtE .LtE (.int 1) (.bcall .len (.cons (.var 0) .nil)) (.glob 1101)) (.cons (.bcall .all (.cons (.comp (.cmp .In (.var 1) (.glob 1100)) (.name 1) (.seq (.var 0)) .nil [((PySem.Str.ofString "sign"), 1)]) .nil)) .nil))))) .nil)⟩
def f_sum_by : FnI := ⟨(PySem.Str.ofString "sum_by"), [(PySem.Str.ofString "ahead"), (PySem.Str.ofString "text")], [(PySem.Str.ofString "ahead"), (PySem.Str.ofString "text"), (PySem.Str.ofString "found"), (PySem.Str.ofString "place"), (PySem.Str.ofString "sign")],
  (.cons (.asg (.name 2) (.bin .Mult (.glob 1104) (.var 0))) (.cons (.forS (.tup [3, 4]) (.enum (.var 1)) (.cons (.aug .Add 2 (.bin .Mult (.bin .Add (.var 3) (.int 1)) (.bin .Add (.meth .index (.glob 1100) (.cons (.var 4) .nil)) (.int 1)))) .nil)) (.cons (.ret (.bin .Mod (.var 2) (.glob 1103))) .nil)))⟩
def f_leaf_by : FnI := ⟨(PySem.Str.ofString "leaf_by"), [(PySem.Str.ofString "ahead"), (PySem.Str.ofString "number"), (PySem.Str.ofString "words")], [(PySem.Str.ofString "ahead"), (PySem.Str.ofString "number"), (PySem.Str.ofString "words"), (PySem.Str.ofString "head"), (PySem.Str.ofString "total")],
  (.cons (.asg (.name 3) (.bin .Add (.bin .Add (.bin .Add (.bcall .str (.cons (.var 1) .nil)) (.str (PySem.Str.ofString " "))) (.var 2)) (.str (PySem.Str.ofString " ")))) (.cons (.asg (.name 4) (.call 1101 (.cons (.var 0) (.cons (.var 3) .nil)))) (.cons (.ret (.tup (.cons (.bin .Add (.bin .Add (.bin .Add (.var 3) (.str (PySem.Str.ofString "#"))) (.meth .rjust (.bcall .str (.cons (.var 4) .nil)) (.cons (.bin .Sub (.glob 1105) (.int 1)) (.cons (.str (PySem.Str.ofString "0")) .nil)))) (.str (PySem.Str.ofString "\n"))) (.cons (.var 4) .nil)))) .nil)))⟩
def f_leaves_by : FnI := ⟨(PySem.Str.ofString "leaves_by"), [(PySem.Str.ofString "texts")], [(PySem.Str.ofString "texts"), (PySem.Str.ofString "found"), (PySem.Str.ofString "ahead"), (PySem.Str.ofString "place"), (PySem.Str.ofString "words"), (PySem.Str.ofString "leaf")],
  (.cons (.par 1 2 (.str (PySem.Str.ofString "")) (.int 0)) (.cons (.forS (.tup [3, 4]) (.enum (.var 0)) (.cons (.asg (.tup [5, 2]) (.call 1102 (.cons (.var 2) (.cons (.bin .Add (.var 3) (.int 1)) (.cons (.var 4) .nil))))) (.cons (.aug .Add 1 (.var 5)) .nil))) (.cons (.ret (.var 1)) .nil)))⟩
def f_leaves_of : FnI := ⟨(PySem.Str.ofString "leaves_of"), [(PySem.Str.ofString "texts")], [(PySem.Str.ofString "texts"), (PySem.Str.ofString "one")],
  (.cons (.ifS (.bool .Or (.cons (.not (.isi (.var 0) .tuple)) (.cons (.not (.bcall .all (.cons (.comp (.call 1100 (.cons (.var 1) .nil)) (.name 1) (.seq (.var 0)) .nil [((PySem.Str.ofString "one"), 1)]) .nil))) .nil))) (.cons (.raise 19 (PySem.Str.ofString "not words")) .nil) .nil) (.cons (.ifS (.cmp .Gt (.bcall .len (.cons (.var 0) .nil)) (.glob 1102)) (.cons (.raise 8 (PySem.Str.ofString "too many leaves")) .nil) .nil) (.cons (.ret (.call 1103 (.cons (.var 0) .nil))) .nil)))⟩
def f__row : FnI := ⟨(PySem.Str.ofString "_row"), [(PySem.Str.ofString "ahead"), (PySem.Str.ofString "due"), (PySem.Str.ofString "line")], [(PySem.Str.ofString "ahead"), (PySem.Str.ofString "due"), (PySem.Str.ofString "line"), (PySem.Str.ofString "head"), (PySem.Str.ofString "total"), (PySem.Str.ofString "begin"), (PySem.Str.ofString "words"), (PySem.Str.ofString "own")],
  (.cons (.par 3 4 (.slice (.var 2) .none (.some (.bin .Sub (.int 0) (.glob 1105)))) (.slice (.var 2) (.some (.bin .Sub (.int 0) (.glob 1105))) .none)) (.cons (.asg (.name 5) (.bin .Add (.bcall .str (.cons (.var 1) .nil)) (.str (PySem.Str.ofString " ")))) (.cons (.ifS (.bool .Or (.cons (.cmp .NotEq (.slice (.var 4) .none (.some (.int 1))) (.str (PySem.Str.ofString "#"))) (.cons (.cmp .NotEq (.slice (.var 3) .none (.some (.bcall .len (.cons (.var 5) .nil)))) (.var 5)) (.cons (.cmp .NotEq (.slice (.var 3) (.some (.neg (.int 1))) .none) (.str (PySem.Str.ofString " "))) (.cons (.cmp .LtE (.bcall .len (.cons (.var 3) .nil)) (.bcall .len (.cons (.var 5) .nil))) .nil))))) (.cons (.ret .non) .nil) .nil) (.cons (.asg (.name 6) (.slice (.var 3) (.some (.bcall .len (.cons (.var 5) .nil))) (.some (.neg (.int 1))))) (.cons (.ifS (.not (.call 1100 (.cons (.var 6) .nil))) (.cons (.ret .non) .nil) .nil) (.cons (.asg (.name 7) (.call 1101 (.cons (.var 0) (.cons (.var 3) .nil)))) (.cons (.ret (.ite (.cmp .Eq (.slice (.var 4) (.some (.int 1)) .none) (.meth .rjust (.bcall .str (.cons (.var 7) .nil)) (.cons (.bin .Sub (.glob 1105) (.int 1)) (.cons (.str (PySem.Str.ofString "0")) .nil)))) (.tup (.cons (.var 6) (.cons (.var 7) .nil))) .non)) .nil)))))))⟩
def f_rows_of : FnI := ⟨(PySem.Str.ofString "rows_of"), [(PySem.Str.ofString "text")], [(PySem.Str.ofString "text"), (PySem.Str.ofString "found"), (PySem.Str.ofString "at"), (PySem.Str.ofString "ahead"), (PySem.Str.ofString "end"), (PySem.Str.ofString "row")],
  (.cons (.asg (.name 1) (.list true .nil)) (.cons (.par 2 3 (.int 0) (.int 0)) (.cons (.asg (.name 4) (.meth .find (.var 0) (.cons (.str (PySem.Str.ofString "\n")) .nil))) (.cons (.whileS (.bool .And (.cons (.cmp .GtE (.var 4) (.int 0)) (.cons (.cmp .Lt (.bcall .len (.cons (.var 1) .nil)) (.glob 1102)) .nil))) (.cons (.asg (.name 5) (.call 1105 (.cons (.var 3) (.cons (.bin .Add (.bcall .len (.cons (.var 1) .nil)) (.int 1)) (.cons (.slice (.var 0) (.some (.var 2)) (.some (.var 4))) .nil))))) (.cons (.ifS (.cmp .Is (.var 5) .non) (.cons (.ret (.var 1)) .nil) .nil) (.cons (.expr (.meth .append (.var 1) (.cons (.bin .Add (.var 5) (.tup (.cons (.bin .Add (.var 4) (.int 1)) .nil))) .nil))) (.cons (.par 2 3 (.bin .Add (.var 4) (.int 1)) (.sub (.var 5) (.int 1))) (.cons (.asg (.name 4) (.meth .find3 (.var 0) (.cons (.str (PySem.Str.ofString "\n")) (.cons (.var 2) .nil)))) .nil)))))) (.cons (.ret (.var 1)) .nil)))))⟩
def f_check_text : FnI := ⟨(PySem.Str.ofString "check_text"), [(PySem.Str.ofString "text")], [(PySem.Str.ofString "text")],
  (.cons (.ifS (.not (.isi (.var 0) .str)) (.cons (.raise 20 (PySem.Str.ofString "not a text")) .nil) .nil) .nil)⟩
def f_words_in : FnI := ⟨(PySem.Str.ofString "words_in"), [(PySem.Str.ofString "text")], [(PySem.Str.ofString "text"), (PySem.Str.ofString "rows"), (PySem.Str.ofString "row")],
  (.cons (.expr (.call 1107 (.cons (.var 0) .nil))) (.cons (.asg (.name 1) (.call 1106 (.cons (.var 0) .nil))) (.cons (.ret (.tup (.cons (.bcall .tuple (.cons (.comp (.sub (.var 2) (.int 0)) (.name 2) (.seq (.var 1)) .nil [((PySem.Str.ofString "row"), 2)]) .nil)) (.cons (.ite (.cmp .Gt (.bcall .len (.cons (.var 1) .nil)) (.int 0)) (.sub (.sub (.var 1) (.neg (.int 1))) (.int 2)) (.int 0)) .nil)))) .nil)))⟩
end M_leaves
end
section
set_option Elab.async false
set_option linter.all false
set_option maxRecDepth 100000
set_option maxHeartbeats 4000000
/-! resumetrue.leaves: what its functions compute. -/
namespace Lv
open PySem Fx
open SX (S)
open L2 (atI)
def SG : List Nat := L "abcdefghijklmnopqrstuvwxyz0123456789()+-*<=,:; "
structure HasLeaves (cfg : Cfg) : Prop where
  f0 : cfg.fns 1100 = some M_leaves.f_are_words
  f1 : cfg.fns 1101 = some M_leaves.f_sum_by
  f2 : cfg.fns 1102 = some M_leaves.f_leaf_by
  f3 : cfg.fns 1103 = some M_leaves.f_leaves_by
  f4 : cfg.fns 1104 = some M_leaves.f_leaves_of
  f5 : cfg.fns 1105 = some M_leaves.f__row
  f6 : cfg.fns 1106 = some M_leaves.f_rows_of
  f7 : cfg.fns 1107 = some M_leaves.f_check_text
  f8 : cfg.fns 1108 = some M_leaves.f_words_in
  g0 : ∃ x, cfg.globs 1100 = some (x, sv SG)
  g1 : ∃ x, cfg.globs 1101 = some (x, .int 20000)
  g2 : ∃ x, cfg.globs 1102 = some (x, .int 99999)
  g3 : ∃ x, cfg.globs 1103 = some (x, .int 99989)
  g4 : ∃ x, cfg.globs 1104 = some (x, .int 11)
  g5 : ∃ x, cfg.globs 1105 = some (x, .int 6)
def arew (l : List Nat) : Bool := decide (1 ≤ l.length) && decide (l.length ≤ 20000) && l.all fun c => decide (c ∈ SG)
theorem allBl_map {α : Type} (g : α → Bool) : ∀ l : List α, allBl (l.map fun c => PV.bl (g c)) = some (l.map g)
  | [] => rfl
  | a :: r => by
    show (allBl (r.map fun c => PV.bl (g c))).map (g a :: ·) = _
    rw [allBl_map g r]; rfl
/-- a sign's number -/
def sg (c : Nat) : Nat := (fnd c SG).getD 0
def sumP (i : Nat) : List Nat → Nat
  | [] => 0
  | c :: r => (i + 1) * (sg c + 1) + sumP (i + 1) r
def sumBy (a : Nat) (l : List Nat) : Nat := (11 * a + sumP 0 l) % 99989
theorem sumP_app : ∀ (l m : List Nat) (i : Nat), sumP i (l ++ m) = sumP i l + sumP (i + l.length) m
  | [], m, i => by simp [sumP]
  | c :: r, m, i => by
    show (i + 1) * (sg c + 1) + sumP (i + 1) (r ++ m) = (i + 1) * (sg c + 1) + sumP (i + 1) r + sumP (i + (r.length + 1)) m
    rw [sumP_app r m (i + 1), show i + 1 + r.length = i + (r.length + 1) by omega]
    omega
theorem fnd_mem {c : Nat} : ∀ {l : List Nat}, c ∈ l → ∃ j, fnd c l = some j ∧ l[j]? = some c
  | [], h => nomatch h
  | x :: r, h => by
    unfold fnd
    by_cases e : x = c
    · rw [if_pos e]; exact ⟨0, rfl, by rw [e]; rfl⟩
    · rw [if_neg e]
      obtain ⟨j, e1, e2⟩ := fnd_mem (List.mem_of_ne_of_mem (Ne.symm e) h)
      exact ⟨j + 1, by rw [e1]; rfl, by simpa using e2⟩
theorem fnd_not {c : Nat} : ∀ {l : List Nat}, c ∉ l → fnd c l = none
  | [], _ => rfl
  | x :: r, h => by
    unfold fnd
    rw [if_neg fun e => h (by rw [e]; exact List.mem_cons_self ..), fnd_not fun m => h (List.mem_cons_of_mem _ m)]
    rfl
theorem sg_of {c : Nat} (h : c ∈ SG) : fnd c SG = some (sg c) := by
  obtain ⟨j, e, _⟩ := fnd_mem h
  unfold sg
  rw [e]; rfl
section
variable {cfg : Cfg} (H : HasLeaves cfg)
include H
theorem are_words (k : Nat) (l : List Nat) (hl : l.length ≤ 16777216) (h : PHeap) : run cfg (k + 1) 1100 [sv l] h = .ok (.bl (arew l)) h := by
  rw [run_succ H.f0 k _ _ rfl]
  obtain ⟨x0, g0⟩ := H.g0
  obtain ⟨x1, g1⟩ := H.g1
  have hl' : l.length ≤ sizeLine := by rw [line24]; exact hl
  have c := ev_comp (cfg := cfg) (call := run cfg k) (elt := .cmp .In (.var 1) (.glob 1100)) (tg := .name 1) (it := .seq (.var 0)) (own := [(Str.ofString "sign", 1)]) (σ := [some (sv l), none]) (h := h) (items := l.map fun c => sv [c]) (w := none)
    (fun v => match v with
      | .str s => .bl (decide (s.cps.toList.headD 0 ∈ SG))
      | v => v) (by simp (disch := first | assumption | omega | (simp only [List.length_append, List.length_cons, List.length_nil, List.length_take, List.length_drop, List.length_replicate, List.length_map]; omega)) only [startP, List.map_cons, List.map_nil, List.length_cons, List.length_nil, List.replicate_succ, List.replicate_zero, List.cons_append, List.nil_append, Nat.add_zero, Nat.zero_add, Nat.reduceAdd, Nat.reduceSub, Nat.reduceLT, Nat.reduceLeDiff, List.getElem?_cons_succ, List.getElem?_cons_zero, List.set_cons_succ, List.set_cons_zero, bind_ok, bind_exc, calm_ok, lift_some,
      x_var, x_int, x_lit, x_bl, x_non, x_bin, x_neg, x_cmp, x_chain, x_bool, x_not, x_ite, x_call, x_bcall, x_isi, x_meth, x_tup, x_listT, x_listF, x_sub, x_slice, x_nil, x_cons, x_onone, x_osome, x_tnil, x_tcons, x_b1, x_and, x_or, x_seq, x_range1, x_range2, x_enum,
      s_nil, s_cons, s_expr, s_ret, s_retN, s_asg, s_par, s_aug, s_if, s_raise, s_try, s_pass, s_brk, s_cont, h_nil, h_cons, tru_bl, b_add, b_sub, b_addI, b_mulI, b_mod, b_fdiv, a_addI, a_subI, c_eq, c_ne, c_lt, c_le, c_gt, c_ge, c_in, c_nin, c_isN, c_isnotN, eq_int, bindN, bindTp, setA0, setA1, omap, Option.map_some, Option.map_none, add_sv, aug_sv, len_sv, sub_sv, cut_sv, find_sv, find3_sv, index_sv, in_sv, r_index, r_rjust, r_find, r_find3, r_join, if_true, bx, nx, nxc, tx, ny_next, ny_cont, ny_brk, ny_ret, ny_exc, len_app, len_lst, len_tup, tuple_lst, r_app, append_app, add_tup, add_lst, sub_tup, sub_lst, slice_tup, slice_lst, at_0, at_1, at_2, at_3, at_m1, rg1_ok, rg2_ok, Int.toNat_natCast, int_int, abs_int, min_int, max_int, slice_scr, seqL, chars_sv]) (fun _ => rfl) (by
      intro x hx acc
      obtain ⟨cc, hc, rfl⟩ := List.mem_map.mp hx
      refine ⟨_, rfl, ?_⟩
      simp (disch := first | assumption | omega | (simp only [List.length_append, List.length_cons, List.length_nil, List.length_take, List.length_drop, List.length_replicate, List.length_map]; omega)) only [startP, List.map_cons, List.map_nil, List.length_cons, List.length_nil, List.replicate_succ, List.replicate_zero, List.cons_append, List.nil_append, Nat.add_zero, Nat.zero_add, Nat.reduceAdd, Nat.reduceSub, Nat.reduceLT, Nat.reduceLeDiff, List.getElem?_cons_succ, List.getElem?_cons_zero, List.set_cons_succ, List.set_cons_zero, bind_ok, bind_exc, calm_ok, lift_some,
      x_var, x_int, x_lit, x_bl, x_non, x_bin, x_neg, x_cmp, x_chain, x_bool, x_not, x_ite, x_call, x_bcall, x_isi, x_meth, x_tup, x_listT, x_listF, x_sub, x_slice, x_nil, x_cons, x_onone, x_osome, x_tnil, x_tcons, x_b1, x_and, x_or, x_seq, x_range1, x_range2, x_enum,
      s_nil, s_cons, s_expr, s_ret, s_retN, s_asg, s_par, s_aug, s_if, s_raise, s_try, s_pass, s_brk, s_cont, h_nil, h_cons, tru_bl, b_add, b_sub, b_addI, b_mulI, b_mod, b_fdiv, a_addI, a_subI, c_eq, c_ne, c_lt, c_le, c_gt, c_ge, c_in, c_nin, c_isN, c_isnotN, eq_int, bindN, bindTp, setA0, setA1, omap, Option.map_some, Option.map_none, add_sv, aug_sv, len_sv, sub_sv, cut_sv, find_sv, find3_sv, index_sv, in_sv, r_index, r_rjust, r_find, r_find3, r_join, if_true, bx, nx, nxc, tx, ny_next, ny_cont, ny_brk, ny_ret, ny_exc, len_app, len_lst, len_tup, tuple_lst, r_app, append_app, add_tup, add_lst, sub_tup, sub_lst, slice_tup, slice_lst, at_0, at_1, at_2, at_3, at_m1, rg1_ok, rg2_ok, Int.toNat_natCast, int_int, abs_int, min_int, max_int, slice_scr, wipeP, x_glob g0]
      rfl) (by simpa using hl') (by
      intro x hx
      obtain ⟨cc, hc, rfl⟩ := List.mem_map.mp hx
      rfl)
  unfold M_leaves.f_are_words
  simp (disch := first | assumption | omega | (simp only [List.length_append, List.length_cons, List.length_nil, List.length_take, List.length_drop, List.length_replicate, List.length_map]; omega)) only [startP, List.map_cons, List.map_nil, List.length_cons, List.length_nil, List.replicate_succ, List.replicate_zero, List.cons_append, List.nil_append, Nat.add_zero, Nat.zero_add, Nat.reduceAdd, Nat.reduceSub, Nat.reduceLT, Nat.reduceLeDiff, List.getElem?_cons_succ, List.getElem?_cons_zero, List.set_cons_succ, List.set_cons_zero, bind_ok, bind_exc, calm_ok, lift_some,
      x_var, x_int, x_lit, x_bl, x_non, x_bin, x_neg, x_cmp, x_chain, x_bool, x_not, x_ite, x_call, x_bcall, x_isi, x_meth, x_tup, x_listT, x_listF, x_sub, x_slice, x_nil, x_cons, x_onone, x_osome, x_tnil, x_tcons, x_b1, x_and, x_or, x_seq, x_range1, x_range2, x_enum,
      s_nil, s_cons, s_expr, s_ret, s_retN, s_asg, s_par, s_aug, s_if, s_raise, s_try, s_pass, s_brk, s_cont, h_nil, h_cons, tru_bl, b_add, b_sub, b_addI, b_mulI, b_mod, b_fdiv, a_addI, a_subI, c_eq, c_ne, c_lt, c_le, c_gt, c_ge, c_in, c_nin, c_isN, c_isnotN, eq_int, bindN, bindTp, setA0, setA1, omap, Option.map_some, Option.map_none, add_sv, aug_sv, len_sv, sub_sv, cut_sv, find_sv, find3_sv, index_sv, in_sv, r_index, r_rjust, r_find, r_find3, r_join, if_true, bx, nx, nxc, tx, ny_next, ny_cont, ny_brk, ny_ret, ny_exc, len_app, len_lst, len_tup, tuple_lst, r_app, append_app, add_tup, add_lst, sub_tup, sub_lst, slice_tup, slice_lst, at_0, at_1, at_2, at_3, at_m1, rg1_ok, rg2_ok, Int.toNat_natCast, int_int, abs_int, min_int, max_int, slice_scr, c, x_glob g1, isV]
  have ea : bfV .all h [PV.lst ((l.map fun c => sv [c]).map fun v => match v with
      | .str s => .bl (decide (s.cps.toList.headD 0 ∈ SG))
      | v => v)] = some (.bl (l.all fun c => decide (c ∈ SG))) := by
    show (allBl _).map _ = _
    rw [List.map_map]
    have : ((fun v => match v with
      | PV.str s => PV.bl (decide (s.cps.toList.headD 0 ∈ SG))
      | v => v) ∘ fun c => sv [c]) = fun c => PV.bl (decide (c ∈ SG)) := by funext c; rfl
    rw [this, allBl_map]
    simp
  cases e1 : decide ((1 : Int) ≤ l.length) with
  | false =>
    simp (disch := first | assumption | omega | (simp only [List.length_append, List.length_cons, List.length_nil, List.length_take, List.length_drop, List.length_replicate, List.length_map]; omega)) only [startP, List.map_cons, List.map_nil, List.length_cons, List.length_nil, List.replicate_succ, List.replicate_zero, List.cons_append, List.nil_append, Nat.add_zero, Nat.zero_add, Nat.reduceAdd, Nat.reduceSub, Nat.reduceLT, Nat.reduceLeDiff, List.getElem?_cons_succ, List.getElem?_cons_zero, List.set_cons_succ, List.set_cons_zero, bind_ok, bind_exc, calm_ok, lift_some,
      x_var, x_int, x_lit, x_bl, x_non, x_bin, x_neg, x_cmp, x_chain, x_bool, x_not, x_ite, x_call, x_bcall, x_isi, x_meth, x_tup, x_listT, x_listF, x_sub, x_slice, x_nil, x_cons, x_onone, x_osome, x_tnil, x_tcons, x_b1, x_and, x_or, x_seq, x_range1, x_range2, x_enum,
      s_nil, s_cons, s_expr, s_ret, s_retN, s_asg, s_par, s_aug, s_if, s_raise, s_try, s_pass, s_brk, s_cont, h_nil, h_cons, tru_bl, b_add, b_sub, b_addI, b_mulI, b_mod, b_fdiv, a_addI, a_subI, c_eq, c_ne, c_lt, c_le, c_gt, c_ge, c_in, c_nin, c_isN, c_isnotN, eq_int, bindN, bindTp, setA0, setA1, omap, Option.map_some, Option.map_none, add_sv, aug_sv, len_sv, sub_sv, cut_sv, find_sv, find3_sv, index_sv, in_sv, r_index, r_rjust, r_find, r_find3, r_join, if_true, bx, nx, nxc, tx, ny_next, ny_cont, ny_brk, ny_ret, ny_exc, len_app, len_lst, len_tup, tuple_lst, r_app, append_app, add_tup, add_lst, sub_tup, sub_lst, slice_tup, slice_lst, at_0, at_1, at_2, at_3, at_m1, rg1_ok, rg2_ok, Int.toNat_natCast, int_int, abs_int, min_int, max_int, slice_scr, exit_ret0]
    have : decide (1 ≤ l.length) = false := decide_eq_false (by have := of_decide_eq_false e1; omega)
    rw [exit_ret0 rfl]
    unfold arew
    rw [this]; rfl
  | true =>
    have t1 : decide (1 ≤ l.length) = true := decide_eq_true (by have := of_decide_eq_true e1; omega)
    cases e2 : decide ((l.length : Int) ≤ 20000) with
    | false =>
      simp (disch := first | assumption | omega | (simp only [List.length_append, List.length_cons, List.length_nil, List.length_take, List.length_drop, List.length_replicate, List.length_map]; omega)) only [startP, List.map_cons, List.map_nil, List.length_cons, List.length_nil, List.replicate_succ, List.replicate_zero, List.cons_append, List.nil_append, Nat.add_zero, Nat.zero_add, Nat.reduceAdd, Nat.reduceSub, Nat.reduceLT, Nat.reduceLeDiff, List.getElem?_cons_succ, List.getElem?_cons_zero, List.set_cons_succ, List.set_cons_zero, bind_ok, bind_exc, calm_ok, lift_some,
      x_var, x_int, x_lit, x_bl, x_non, x_bin, x_neg, x_cmp, x_chain, x_bool, x_not, x_ite, x_call, x_bcall, x_isi, x_meth, x_tup, x_listT, x_listF, x_sub, x_slice, x_nil, x_cons, x_onone, x_osome, x_tnil, x_tcons, x_b1, x_and, x_or, x_seq, x_range1, x_range2, x_enum,
      s_nil, s_cons, s_expr, s_ret, s_retN, s_asg, s_par, s_aug, s_if, s_raise, s_try, s_pass, s_brk, s_cont, h_nil, h_cons, tru_bl, b_add, b_sub, b_addI, b_mulI, b_mod, b_fdiv, a_addI, a_subI, c_eq, c_ne, c_lt, c_le, c_gt, c_ge, c_in, c_nin, c_isN, c_isnotN, eq_int, bindN, bindTp, setA0, setA1, omap, Option.map_some, Option.map_none, add_sv, aug_sv, len_sv, sub_sv, cut_sv, find_sv, find3_sv, index_sv, in_sv, r_index, r_rjust, r_find, r_find3, r_join, if_true, bx, nx, nxc, tx, ny_next, ny_cont, ny_brk, ny_ret, ny_exc, len_app, len_lst, len_tup, tuple_lst, r_app, append_app, add_tup, add_lst, sub_tup, sub_lst, slice_tup, slice_lst, at_0, at_1, at_2, at_3, at_m1, rg1_ok, rg2_ok, Int.toNat_natCast, int_int, abs_int, min_int, max_int, slice_scr]
      have : decide (l.length ≤ 20000) = false := decide_eq_false (by have := of_decide_eq_false e2; omega)
      rw [exit_ret0 rfl]
      unfold arew
      rw [this, Bool.and_false]; rfl
    | true =>
      have t2 : decide (l.length ≤ 20000) = true := decide_eq_true (by have := of_decide_eq_true e2; omega)
      simp (disch := first | assumption | omega | (simp only [List.length_append, List.length_cons, List.length_nil, List.length_take, List.length_drop, List.length_replicate, List.length_map]; omega)) only [startP, List.map_cons, List.map_nil, List.length_cons, List.length_nil, List.replicate_succ, List.replicate_zero, List.cons_append, List.nil_append, Nat.add_zero, Nat.zero_add, Nat.reduceAdd, Nat.reduceSub, Nat.reduceLT, Nat.reduceLeDiff, List.getElem?_cons_succ, List.getElem?_cons_zero, List.set_cons_succ, List.set_cons_zero, bind_ok, bind_exc, calm_ok, lift_some,
      x_var, x_int, x_lit, x_bl, x_non, x_bin, x_neg, x_cmp, x_chain, x_bool, x_not, x_ite, x_call, x_bcall, x_isi, x_meth, x_tup, x_listT, x_listF, x_sub, x_slice, x_nil, x_cons, x_onone, x_osome, x_tnil, x_tcons, x_b1, x_and, x_or, x_seq, x_range1, x_range2, x_enum,
      s_nil, s_cons, s_expr, s_ret, s_retN, s_asg, s_par, s_aug, s_if, s_raise, s_try, s_pass, s_brk, s_cont, h_nil, h_cons, tru_bl, b_add, b_sub, b_addI, b_mulI, b_mod, b_fdiv, a_addI, a_subI, c_eq, c_ne, c_lt, c_le, c_gt, c_ge, c_in, c_nin, c_isN, c_isnotN, eq_int, bindN, bindTp, setA0, setA1, omap, Option.map_some, Option.map_none, add_sv, aug_sv, len_sv, sub_sv, cut_sv, find_sv, find3_sv, index_sv, in_sv, r_index, r_rjust, r_find, r_find3, r_join, if_true, bx, nx, nxc, tx, ny_next, ny_cont, ny_brk, ny_ret, ny_exc, len_app, len_lst, len_tup, tuple_lst, r_app, append_app, add_tup, add_lst, sub_tup, sub_lst, slice_tup, slice_lst, at_0, at_1, at_2, at_3, at_m1, rg1_ok, rg2_ok, Int.toNat_natCast, int_int, abs_int, min_int, max_int, slice_scr, c, ea]
      rw [exit_ret0 rfl]
      unfold arew
      rw [t1, t2]; rfl
theorem sum_by (k : Nat) (a : Nat) (l : List Nat) (hl : l.length ≤ 16777216) (hs : ∀ c ∈ l, c ∈ SG) (h : PHeap) : run cfg (k + 1) 1101 [.int a, sv l] h = .ok (.int (sumBy a l : Nat)) h := by
  rw [run_succ H.f1 k _ _ rfl]
  obtain ⟨x0, g0⟩ := H.g0
  obtain ⟨x3, g3⟩ := H.g3
  obtain ⟨x4, g4⟩ := H.g4
  unfold M_leaves.f_sum_by
  simp (disch := first | assumption | omega | (simp only [List.length_append, List.length_cons, List.length_nil, List.length_take, List.length_drop, List.length_replicate, List.length_map]; omega)) only [startP, List.map_cons, List.map_nil, List.length_cons, List.length_nil, List.replicate_succ, List.replicate_zero, List.cons_append, List.nil_append, Nat.add_zero, Nat.zero_add, Nat.reduceAdd, Nat.reduceSub, Nat.reduceLT, Nat.reduceLeDiff, List.getElem?_cons_succ, List.getElem?_cons_zero, List.set_cons_succ, List.set_cons_zero, bind_ok, bind_exc, calm_ok, lift_some,
      x_var, x_int, x_lit, x_bl, x_non, x_bin, x_neg, x_cmp, x_chain, x_bool, x_not, x_ite, x_call, x_bcall, x_isi, x_meth, x_tup, x_listT, x_listF, x_sub, x_slice, x_nil, x_cons, x_onone, x_osome, x_tnil, x_tcons, x_b1, x_and, x_or, x_seq, x_range1, x_range2, x_enum,
      s_nil, s_cons, s_expr, s_ret, s_retN, s_asg, s_par, s_aug, s_if, s_raise, s_try, s_pass, s_brk, s_cont, h_nil, h_cons, tru_bl, b_add, b_sub, b_addI, b_mulI, b_mod, b_fdiv, a_addI, a_subI, c_eq, c_ne, c_lt, c_le, c_gt, c_ge, c_in, c_nin, c_isN, c_isnotN, eq_int, bindN, bindTp, setA0, setA1, omap, Option.map_some, Option.map_none, add_sv, aug_sv, len_sv, sub_sv, cut_sv, find_sv, find3_sv, index_sv, in_sv, r_index, r_rjust, r_find, r_find3, r_join, if_true, bx, nx, nxc, tx, ny_next, ny_cont, ny_brk, ny_ret, ny_exc, len_app, len_lst, len_tup, tuple_lst, r_app, append_app, add_tup, add_lst, sub_tup, sub_lst, slice_tup, slice_lst, at_0, at_1, at_2, at_3, at_m1, rg1_ok, rg2_ok, Int.toNat_natCast, int_int, abs_int, min_int, max_int, slice_scr, x_glob g4, s_for, seqL, chars_sv]
  generalize hq : forL _ _ _ _ _ _ = q
  obtain ⟨σ', h', rfl, e1, e2⟩ := for_q hq (fun i σ g => g = h ∧ ∃ y z, σ = [some (.int a), some (sv l), some (.int ((11 * a + sumP 0 (l.take i) : Nat) : Int)), y, z]) (fun _ _ _ _ => rfl) ⟨rfl, none, none, by simp [sumP]⟩ (by
    rintro i x σ g hx ⟨rfl, y, z, rfl⟩
    rw [enumL_at, List.getElem?_map] at hx
    obtain ⟨_, h1, rfl⟩ := Option.map_eq_some_iff.mp hx
    obtain ⟨c, h2, rfl⟩ := Option.map_eq_some_iff.mp h1
    have mc := List.mem_of_getElem? h2
    have hi : i < l.length := (List.getElem?_eq_some_iff.mp h2).1
    simp (disch := first | assumption | omega | (simp only [List.length_append, List.length_cons, List.length_nil, List.length_take, List.length_drop, List.length_replicate, List.length_map]; omega)) only [startP, List.map_cons, List.map_nil, List.length_cons, List.length_nil, List.replicate_succ, List.replicate_zero, List.cons_append, List.nil_append, Nat.add_zero, Nat.zero_add, Nat.reduceAdd, Nat.reduceSub, Nat.reduceLT, Nat.reduceLeDiff, List.getElem?_cons_succ, List.getElem?_cons_zero, List.set_cons_succ, List.set_cons_zero, bind_ok, bind_exc, calm_ok, lift_some,
      x_var, x_int, x_lit, x_bl, x_non, x_bin, x_neg, x_cmp, x_chain, x_bool, x_not, x_ite, x_call, x_bcall, x_isi, x_meth, x_tup, x_listT, x_listF, x_sub, x_slice, x_nil, x_cons, x_onone, x_osome, x_tnil, x_tcons, x_b1, x_and, x_or, x_seq, x_range1, x_range2, x_enum,
      s_nil, s_cons, s_expr, s_ret, s_retN, s_asg, s_par, s_aug, s_if, s_raise, s_try, s_pass, s_brk, s_cont, h_nil, h_cons, tru_bl, b_add, b_sub, b_addI, b_mulI, b_mod, b_fdiv, a_addI, a_subI, c_eq, c_ne, c_lt, c_le, c_gt, c_ge, c_in, c_nin, c_isN, c_isnotN, eq_int, bindN, bindTp, setA0, setA1, omap, Option.map_some, Option.map_none, add_sv, aug_sv, len_sv, sub_sv, cut_sv, find_sv, find3_sv, index_sv, in_sv, r_index, r_rjust, r_find, r_find3, r_join, if_true, bx, nx, nxc, tx, ny_next, ny_cont, ny_brk, ny_ret, ny_exc, len_app, len_lst, len_tup, tuple_lst, r_app, append_app, add_tup, add_lst, sub_tup, sub_lst, slice_tup, slice_lst, at_0, at_1, at_2, at_3, at_m1, rg1_ok, rg2_ok, Int.toNat_natCast, int_int, abs_int, min_int, max_int, slice_scr, x_glob g0, sg_of (hs c mc)]
    refine ⟨trivial, some (.int i), some (sv [c]), ?_⟩
    have et : l.take (i + 1) = l.take i ++ [c] := by rw [List.take_add_one, h2]; rfl
    have el : (l.take i).length = i := by simp; omega
    have ev : ((11 * a + sumP 0 (l.take (i + 1)) : Nat) : Int) = ((11 * a + sumP 0 (l.take i) : Nat) : Int) + ((i : Int) + 1) * ((sg c : Int) + 1) := by
      rw [et, sumP_app, el]
      simp only [sumP, Nat.zero_add, Nat.add_zero]
      push_cast
      omega
    rw [ev])
  subst e1
  obtain ⟨y, z, rfl⟩ := e2
  simp (disch := first | assumption | omega | (simp only [List.length_append, List.length_cons, List.length_nil, List.length_take, List.length_drop, List.length_replicate, List.length_map]; omega)) only [startP, List.map_cons, List.map_nil, List.length_cons, List.length_nil, List.replicate_succ, List.replicate_zero, List.cons_append, List.nil_append, Nat.add_zero, Nat.zero_add, Nat.reduceAdd, Nat.reduceSub, Nat.reduceLT, Nat.reduceLeDiff, List.getElem?_cons_succ, List.getElem?_cons_zero, List.set_cons_succ, List.set_cons_zero, bind_ok, bind_exc, calm_ok, lift_some,
      x_var, x_int, x_lit, x_bl, x_non, x_bin, x_neg, x_cmp, x_chain, x_bool, x_not, x_ite, x_call, x_bcall, x_isi, x_meth, x_tup, x_listT, x_listF, x_sub, x_slice, x_nil, x_cons, x_onone, x_osome, x_tnil, x_tcons, x_b1, x_and, x_or, x_seq, x_range1, x_range2, x_enum,
      s_nil, s_cons, s_expr, s_ret, s_retN, s_asg, s_par, s_aug, s_if, s_raise, s_try, s_pass, s_brk, s_cont, h_nil, h_cons, tru_bl, b_add, b_sub, b_addI, b_mulI, b_mod, b_fdiv, a_addI, a_subI, c_eq, c_ne, c_lt, c_le, c_gt, c_ge, c_in, c_nin, c_isN, c_isnotN, eq_int, bindN, bindTp, setA0, setA1, omap, Option.map_some, Option.map_none, add_sv, aug_sv, len_sv, sub_sv, cut_sv, find_sv, find3_sv, index_sv, in_sv, r_index, r_rjust, r_find, r_find3, r_join, if_true, bx, nx, nxc, tx, ny_next, ny_cont, ny_brk, ny_ret, ny_exc, len_app, len_lst, len_tup, tuple_lst, r_app, append_app, add_tup, add_lst, sub_tup, sub_lst, slice_tup, slice_lst, at_0, at_1, at_2, at_3, at_m1, rg1_ok, rg2_ok, Int.toNat_natCast, int_int, abs_int, min_int, max_int, slice_scr, x_glob g3]
  have em : (((11 * a + sumP 0 l : Nat) : Int) % 99989) = ((sumBy a l : Nat) : Int) := by unfold sumBy; omega
  rw [enumL_n, List.take_of_length_le (by simp), em, exit_ret0 rfl]
end
end Lv
end
section
set_option Elab.async false
set_option linter.all false
set_option maxRecDepth 100000
set_option maxHeartbeats 4000000
/-! resumetrue.leaves: leaves written. -/
namespace Lv
open PySem Fx
open SX (S)
open L2 (atI)
def headBy (n : Nat) (w : List Nat) : List Nat := TL.numL n ++ [32] ++ w ++ [32]
def pad5 (n : Nat) : List Nat := List.replicate (5 - (TL.numL n).length) 48 ++ TL.numL n
def own (a n : Nat) (w : List Nat) : Nat := sumBy a (headBy n w)
def leafBy (a n : Nat) (w : List Nat) : List Nat := headBy n w ++ [35] ++ pad5 (own a n w) ++ [10]
def leafs : Nat → Nat → List (List Nat) → List (List Nat)
  | _, _, [] => []
  | a, n, w :: r => leafBy a n w :: leafs (own a n w) (n + 1) r
def ahd : Nat → Nat → List (List Nat) → Nat
  | a, _, [] => a
  | a, n, w :: r => ahd (own a n w) (n + 1) r
theorem leafs_app : ∀ (u v : List (List Nat)) (a n : Nat), leafs a n (u ++ v) = leafs a n u ++ leafs (ahd a n u) (n + u.length) v
  | [], v, a, n => by simp [leafs, ahd]
  | w :: r, v, a, n => by
    show leafBy a n w :: leafs (own a n w) (n + 1) (r ++ v) = leafBy a n w :: (leafs (own a n w) (n + 1) r ++ leafs (ahd (own a n w) (n + 1) r) (n + (r.length + 1)) v)
    rw [leafs_app r v, show n + 1 + r.length = n + (r.length + 1) by omega]
theorem ahd_app : ∀ (u v : List (List Nat)) (a n : Nat), ahd a n (u ++ v) = ahd (ahd a n u) (n + u.length) v
  | [], v, a, n => by simp [ahd]
  | w :: r, v, a, n => by
    show ahd (own a n w) (n + 1) (r ++ v) = ahd (ahd (own a n w) (n + 1) r) (n + (r.length + 1)) v
    rw [ahd_app r v, show n + 1 + r.length = n + (r.length + 1) by omega]
theorem sum_lt (a : Nat) (l : List Nat) : sumBy a l < 99989 := Nat.mod_lt _ (by decide)
theorem ahd_lt : ∀ (u : List (List Nat)) (a n : Nat), a < 99989 → ahd a n u < 99989
  | [], a, n, h => h
  | w :: r, a, n, h => ahd_lt r _ _ (sum_lt _ _)
theorem log_small {n : Nat} (h : n < 1000000000) : n.log2 < 1920 := by
  by_cases z : n = 0
  · subst z; decide
  · rw [Nat.log2_lt z]
    exact Nat.lt_of_lt_of_le h (Nat.le_trans (by decide : (1000000000 : Nat) ≤ 2 ^ 30) (Nat.pow_le_pow_right (by decide) (by decide)))
theorem b_str (h : PHeap) (n : Nat) (q : n < 1000000000) : bfV .str h [.int (n : Int)] = some (sv (TL.numL n)) := str_nat n (log_small q)
theorem num_len {n : Nat} (h : n < 1000000000) : (TL.numL n).length ≤ 9 := TL.numL_len (by decide) h
theorem num_len5 {n : Nat} (h : n < 100000) : (TL.numL n).length ≤ 5 := TL.numL_len (by decide) h
theorem rjust5 (h : PHeap) (a : List Nat) : bmV .rjust h (sv a) [.int 5, sv [48]] = .ok (sv (List.replicate (5 - a.length) 48 ++ a)) h := rjust_sv h a 5 48 (by decide)
theorem l_sp : L " " = [32] := by decide
theorem l_hash : L "#" = [35] := by decide
theorem l_0 : L "0" = [48] := by decide
theorem l_nl : L "\n" = [10] := by decide
theorem l_nil : L "" = [] := by decide
theorem dig_SG {c : Nat} (h1 : 48 ≤ c) (h2 : c ≤ 57) : c ∈ SG := by
  have : c = 48 ∨ c = 49 ∨ c = 50 ∨ c = 51 ∨ c = 52 ∨ c = 53 ∨ c = 54 ∨ c = 55 ∨ c = 56 ∨ c = 57 := by omega
  rcases this with rfl | rfl | rfl | rfl | rfl | rfl | rfl | rfl | rfl | rfl <;> decide
theorem num_SG {n c : Nat} (h : c ∈ TL.numL n) : c ∈ SG := by
  have := TL.numL_digits n
  have q := this c h
  exact dig_SG q.1 q.2
theorem sp_SG : 32 ∈ SG := by decide
theorem head_SG {n : Nat} {w : List Nat} (hw : ∀ c ∈ w, c ∈ SG) : ∀ c ∈ headBy n w, c ∈ SG := by
  intro c h
  unfold headBy at h
  simp only [List.mem_append, List.mem_singleton] at h
  rcases h with ((h | rfl) | h) | rfl
  · exact num_SG h
  · exact sp_SG
  · exact hw c h
  · exact sp_SG
section
variable {cfg : Cfg} (H : HasLeaves cfg)
include H
theorem leaf_by (k a n : Nat) (w : List Nat) (hn : n < 1000000000) (hl : w.length ≤ 100000) (hs : ∀ c ∈ w, c ∈ SG) (h : PHeap) :
    run cfg (k + 2) 1102 [.int a, .int n, sv w] h = .ok (.tup [sv (leafBy a n w), .int (own a n w : Nat)]) h := by
  rw [run_succ H.f2 (k + 1) _ _ rfl]
  obtain ⟨x5, g5⟩ := H.g5
  unfold M_leaves.f_leaf_by
  have n9 := num_len hn
  have ln := line24
  have hd : TL.numL n ++ [32] ++ w ++ [32] = headBy n w := rfl
  have hlen : (headBy n w).length ≤ 100011 := by unfold headBy; simp only [List.length_append, List.length_cons, List.length_nil]; omega
  have hsm := sum_by H k a (headBy n w) (by omega) (head_SG hs) h
  have ol : own a n w < 99989 := sum_lt _ _
  have o9 := num_len5 (show own a n w < 100000 by omega)
  simp (disch := first | assumption | omega | (simp only [List.length_append, List.length_cons, List.length_nil, List.length_take, List.length_drop, List.length_replicate, List.length_map]; omega)) only [startP, List.map_cons, List.map_nil, List.length_cons, List.length_nil, List.replicate_succ, List.replicate_zero, List.cons_append, List.nil_append, Nat.add_zero, Nat.zero_add, Nat.reduceAdd, Nat.reduceSub, Nat.reduceLT, Nat.reduceLeDiff, List.getElem?_cons_succ, List.getElem?_cons_zero, List.set_cons_succ, List.set_cons_zero, bind_ok, bind_exc, calm_ok, lift_some,
      x_var, x_int, x_lit, x_bl, x_non, x_bin, x_neg, x_cmp, x_chain, x_bool, x_not, x_ite, x_call, x_bcall, x_isi, x_meth, x_tup, x_listT, x_listF, x_sub, x_slice, x_nil, x_cons, x_onone, x_osome, x_tnil, x_tcons, x_b1, x_and, x_or, x_seq, x_range1, x_range2, x_enum,
      s_nil, s_cons, s_expr, s_ret, s_retN, s_asg, s_par, s_aug, s_if, s_raise, s_try, s_pass, s_brk, s_cont, h_nil, h_cons, tru_bl, b_add, b_sub, b_addI, b_mulI, b_mod, b_fdiv, a_addI, a_subI, c_eq, c_ne, c_lt, c_le, c_gt, c_ge, c_in, c_nin, c_isN, c_isnotN, eq_int, bindN, bindTp, setA0, setA1, omap, Option.map_some, Option.map_none, add_sv, aug_sv, len_sv, sub_sv, cut_sv, find_sv, find3_sv, index_sv, in_sv, r_index, r_rjust, r_find, r_find3, r_join, if_true, bx, nx, nxc, tx, ny_next, ny_cont, ny_brk, ny_ret, ny_exc, len_app, len_lst, len_tup, tuple_lst, r_app, append_app, add_tup, add_lst, sub_tup, sub_lst, slice_tup, slice_lst, at_0, at_1, at_2, at_3, at_m1, rg1_ok, rg2_ok, Int.toNat_natCast, int_int, abs_int, min_int, max_int, slice_scr, b_str, l_sp, hd, hsm]
  rw [show sumBy a (headBy n w) = own a n w from rfl]
  simp (disch := first | assumption | omega | (simp only [List.length_append, List.length_cons, List.length_nil, List.length_take, List.length_drop, List.length_replicate, List.length_map]; omega)) only [startP, List.map_cons, List.map_nil, List.length_cons, List.length_nil, List.replicate_succ, List.replicate_zero, List.cons_append, List.nil_append, Nat.add_zero, Nat.zero_add, Nat.reduceAdd, Nat.reduceSub, Nat.reduceLT, Nat.reduceLeDiff, List.getElem?_cons_succ, List.getElem?_cons_zero, List.set_cons_succ, List.set_cons_zero, bind_ok, bind_exc, calm_ok, lift_some,
      x_var, x_int, x_lit, x_bl, x_non, x_bin, x_neg, x_cmp, x_chain, x_bool, x_not, x_ite, x_call, x_bcall, x_isi, x_meth, x_tup, x_listT, x_listF, x_sub, x_slice, x_nil, x_cons, x_onone, x_osome, x_tnil, x_tcons, x_b1, x_and, x_or, x_seq, x_range1, x_range2, x_enum,
      s_nil, s_cons, s_expr, s_ret, s_retN, s_asg, s_par, s_aug, s_if, s_raise, s_try, s_pass, s_brk, s_cont, h_nil, h_cons, tru_bl, b_add, b_sub, b_addI, b_mulI, b_mod, b_fdiv, a_addI, a_subI, c_eq, c_ne, c_lt, c_le, c_gt, c_ge, c_in, c_nin, c_isN, c_isnotN, eq_int, bindN, bindTp, setA0, setA1, omap, Option.map_some, Option.map_none, add_sv, aug_sv, len_sv, sub_sv, cut_sv, find_sv, find3_sv, index_sv, in_sv, r_index, r_rjust, r_find, r_find3, r_join, if_true, bx, nx, nxc, tx, ny_next, ny_cont, ny_brk, ny_ret, ny_exc, len_app, len_lst, len_tup, tuple_lst, r_app, append_app, add_tup, add_lst, sub_tup, sub_lst, slice_tup, slice_lst, at_0, at_1, at_2, at_3, at_m1, rg1_ok, rg2_ok, Int.toNat_natCast, int_int, abs_int, min_int, max_int, slice_scr, b_str, l_hash, l_0, l_nl, x_glob g5, Int.reduceSub, rjust5]
  rw [exit_ret0 rfl]
  rfl
theorem leaves_by (k : Nat) (ws : List (List Nat)) (hw : ∀ w ∈ ws, w.length ≤ 100000 ∧ ∀ c ∈ w, c ∈ SG) (hn : ws.length ≤ 100000000) (hT : (leafs 0 1 ws).flatten.length ≤ 16777216) (h : PHeap) :
    run cfg (k + 3) 1103 [.tup (ws.map sv)] h = .ok (sv (leafs 0 1 ws).flatten) h := by
  rw [run_succ H.f3 (k + 2) _ _ rfl]
  unfold M_leaves.f_leaves_by
  have ln := line24
  simp (disch := first | assumption | omega | (simp only [List.length_append, List.length_cons, List.length_nil, List.length_take, List.length_drop, List.length_replicate, List.length_map]; omega)) only [startP, List.map_cons, List.map_nil, List.length_cons, List.length_nil, List.replicate_succ, List.replicate_zero, List.cons_append, List.nil_append, Nat.add_zero, Nat.zero_add, Nat.reduceAdd, Nat.reduceSub, Nat.reduceLT, Nat.reduceLeDiff, List.getElem?_cons_succ, List.getElem?_cons_zero, List.set_cons_succ, List.set_cons_zero, bind_ok, bind_exc, calm_ok, lift_some,
      x_var, x_int, x_lit, x_bl, x_non, x_bin, x_neg, x_cmp, x_chain, x_bool, x_not, x_ite, x_call, x_bcall, x_isi, x_meth, x_tup, x_listT, x_listF, x_sub, x_slice, x_nil, x_cons, x_onone, x_osome, x_tnil, x_tcons, x_b1, x_and, x_or, x_seq, x_range1, x_range2, x_enum,
      s_nil, s_cons, s_expr, s_ret, s_retN, s_asg, s_par, s_aug, s_if, s_raise, s_try, s_pass, s_brk, s_cont, h_nil, h_cons, tru_bl, b_add, b_sub, b_addI, b_mulI, b_mod, b_fdiv, a_addI, a_subI, c_eq, c_ne, c_lt, c_le, c_gt, c_ge, c_in, c_nin, c_isN, c_isnotN, eq_int, bindN, bindTp, setA0, setA1, omap, Option.map_some, Option.map_none, add_sv, aug_sv, len_sv, sub_sv, cut_sv, find_sv, find3_sv, index_sv, in_sv, r_index, r_rjust, r_find, r_find3, r_join, if_true, bx, nx, nxc, tx, ny_next, ny_cont, ny_brk, ny_ret, ny_exc, len_app, len_lst, len_tup, tuple_lst, r_app, append_app, add_tup, add_lst, sub_tup, sub_lst, slice_tup, slice_lst, at_0, at_1, at_2, at_3, at_m1, rg1_ok, rg2_ok, Int.toNat_natCast, int_int, abs_int, min_int, max_int, slice_scr, l_nil, s_for, seqL]
  generalize hq : forL _ _ _ _ _ _ = q
  obtain ⟨σ', h', rfl, e1, e2⟩ := for_q hq (fun i σ g => g = h ∧ ∃ y z t, σ = [some (.tup (ws.map sv)), some (sv (leafs 0 1 (ws.take i)).flatten), some (.int (ahd 0 1 (ws.take i) : Nat)), y, z, t]) (fun _ _ _ _ => rfl) ⟨rfl, none, none, none, by simp [leafs, ahd]⟩ (by
    rintro i x σ g hx ⟨rfl, y, z, t, rfl⟩
    rw [enumL_at, List.getElem?_map] at hx
    obtain ⟨_, h1, rfl⟩ := Option.map_eq_some_iff.mp hx
    obtain ⟨w, h2, rfl⟩ := Option.map_eq_some_iff.mp h1
    have mw := hw w (List.mem_of_getElem? h2)
    have hi : i < ws.length := (List.getElem?_eq_some_iff.mp h2).1
    have et : ws.take (i + 1) = ws.take i ++ [w] := by rw [List.take_add_one, h2]; rfl
    have el : (ws.take i).length = i := by simp; omega
    have lf := leaf_by H k (ahd 0 1 (ws.take i)) (i + 1) w (by omega) mw.1 mw.2 g
    have e3 : leafs 0 1 (ws.take (i + 1)) = leafs 0 1 (ws.take i) ++ [leafBy (ahd 0 1 (ws.take i)) (i + 1) w] := by
      rw [et, leafs_app, el, show 1 + i = i + 1 by omega]; rfl
    have e4 : ahd 0 1 (ws.take (i + 1)) = own (ahd 0 1 (ws.take i)) (i + 1) w := by
      rw [et, ahd_app, el, show 1 + i = i + 1 by omega]; rfl
    have e5 : (leafs 0 1 (ws.take (i + 1))).flatten.length ≤ 16777216 := by
      have : ws = ws.take (i + 1) ++ ws.drop (i + 1) := (List.take_append_drop ..).symm
      rw [this, leafs_app, List.flatten_append, List.length_append] at hT
      omega
    rw [e3, List.flatten_append, List.length_append] at e5
    have e6 : ((i : Int) + 1) = ((i + 1 : Nat) : Int) := by omega
    simp only [List.flatten_cons, List.flatten_nil, List.append_nil] at e5
    simp (disch := first | assumption | omega | (simp only [List.length_append, List.length_cons, List.length_nil, List.length_take, List.length_drop, List.length_replicate, List.length_map]; omega)) only [startP, List.map_cons, List.map_nil, List.length_cons, List.length_nil, List.replicate_succ, List.replicate_zero, List.cons_append, List.nil_append, Nat.add_zero, Nat.zero_add, Nat.reduceAdd, Nat.reduceSub, Nat.reduceLT, Nat.reduceLeDiff, List.getElem?_cons_succ, List.getElem?_cons_zero, List.set_cons_succ, List.set_cons_zero, bind_ok, bind_exc, calm_ok, lift_some,
      x_var, x_int, x_lit, x_bl, x_non, x_bin, x_neg, x_cmp, x_chain, x_bool, x_not, x_ite, x_call, x_bcall, x_isi, x_meth, x_tup, x_listT, x_listF, x_sub, x_slice, x_nil, x_cons, x_onone, x_osome, x_tnil, x_tcons, x_b1, x_and, x_or, x_seq, x_range1, x_range2, x_enum,
      s_nil, s_cons, s_expr, s_ret, s_retN, s_asg, s_par, s_aug, s_if, s_raise, s_try, s_pass, s_brk, s_cont, h_nil, h_cons, tru_bl, b_add, b_sub, b_addI, b_mulI, b_mod, b_fdiv, a_addI, a_subI, c_eq, c_ne, c_lt, c_le, c_gt, c_ge, c_in, c_nin, c_isN, c_isnotN, eq_int, bindN, bindTp, setA0, setA1, omap, Option.map_some, Option.map_none, add_sv, aug_sv, len_sv, sub_sv, cut_sv, find_sv, find3_sv, index_sv, in_sv, r_index, r_rjust, r_find, r_find3, r_join, if_true, bx, nx, nxc, tx, ny_next, ny_cont, ny_brk, ny_ret, ny_exc, len_app, len_lst, len_tup, tuple_lst, r_app, append_app, add_tup, add_lst, sub_tup, sub_lst, slice_tup, slice_lst, at_0, at_1, at_2, at_3, at_m1, rg1_ok, rg2_ok, Int.toNat_natCast, int_int, abs_int, min_int, max_int, slice_scr, e6, lf]
    refine ⟨trivial, some (.int i), some (sv w), some (sv (leafBy (ahd 0 1 (ws.take i)) (i + 1) w)), ?_⟩
    rw [e3, e4, List.flatten_append]
    simp)
  subst e1
  obtain ⟨y, z, t, rfl⟩ := e2
  simp (disch := first | assumption | omega | (simp only [List.length_append, List.length_cons, List.length_nil, List.length_take, List.length_drop, List.length_replicate, List.length_map]; omega)) only [startP, List.map_cons, List.map_nil, List.length_cons, List.length_nil, List.replicate_succ, List.replicate_zero, List.cons_append, List.nil_append, Nat.add_zero, Nat.zero_add, Nat.reduceAdd, Nat.reduceSub, Nat.reduceLT, Nat.reduceLeDiff, List.getElem?_cons_succ, List.getElem?_cons_zero, List.set_cons_succ, List.set_cons_zero, bind_ok, bind_exc, calm_ok, lift_some,
      x_var, x_int, x_lit, x_bl, x_non, x_bin, x_neg, x_cmp, x_chain, x_bool, x_not, x_ite, x_call, x_bcall, x_isi, x_meth, x_tup, x_listT, x_listF, x_sub, x_slice, x_nil, x_cons, x_onone, x_osome, x_tnil, x_tcons, x_b1, x_and, x_or, x_seq, x_range1, x_range2, x_enum,
      s_nil, s_cons, s_expr, s_ret, s_retN, s_asg, s_par, s_aug, s_if, s_raise, s_try, s_pass, s_brk, s_cont, h_nil, h_cons, tru_bl, b_add, b_sub, b_addI, b_mulI, b_mod, b_fdiv, a_addI, a_subI, c_eq, c_ne, c_lt, c_le, c_gt, c_ge, c_in, c_nin, c_isN, c_isnotN, eq_int, bindN, bindTp, setA0, setA1, omap, Option.map_some, Option.map_none, add_sv, aug_sv, len_sv, sub_sv, cut_sv, find_sv, find3_sv, index_sv, in_sv, r_index, r_rjust, r_find, r_find3, r_join, if_true, bx, nx, nxc, tx, ny_next, ny_cont, ny_brk, ny_ret, ny_exc, len_app, len_lst, len_tup, tuple_lst, r_app, append_app, add_tup, add_lst, sub_tup, sub_lst, slice_tup, slice_lst, at_0, at_1, at_2, at_3, at_m1, rg1_ok, rg2_ok, Int.toNat_natCast, int_int, abs_int, min_int, max_int, slice_scr]
  rw [exit_ret0 rfl, enumL_n, List.take_of_length_le (by simp)]
def arewV : PV → Bool
  | .str s => arew s.cps.toList
  | _ => false
/-- a value that are_words answers -/
def okW (v : PV) : Prop := v = .non ∨ ∃ l : List Nat, l.length ≤ 16777216 ∧ v = sv l
theorem are_wordsV (k : Nat) (v : PV) (o : okW v) (h : PHeap) : run cfg (k + 1) 1100 [v] h = .ok (.bl (arewV v)) h := by
  rcases o with rfl | ⟨l, hl, rfl⟩
  · rw [run_succ H.f0 k _ _ rfl]
    unfold M_leaves.f_are_words
    simp (disch := first | assumption | omega | (simp only [List.length_append, List.length_cons, List.length_nil, List.length_take, List.length_drop, List.length_replicate, List.length_map]; omega)) only [startP, List.map_cons, List.map_nil, List.length_cons, List.length_nil, List.replicate_succ, List.replicate_zero, List.cons_append, List.nil_append, Nat.add_zero, Nat.zero_add, Nat.reduceAdd, Nat.reduceSub, Nat.reduceLT, Nat.reduceLeDiff, List.getElem?_cons_succ, List.getElem?_cons_zero, List.set_cons_succ, List.set_cons_zero, bind_ok, bind_exc, calm_ok, lift_some,
      x_var, x_int, x_lit, x_bl, x_non, x_bin, x_neg, x_cmp, x_chain, x_bool, x_not, x_ite, x_call, x_bcall, x_isi, x_meth, x_tup, x_listT, x_listF, x_sub, x_slice, x_nil, x_cons, x_onone, x_osome, x_tnil, x_tcons, x_b1, x_and, x_or, x_seq, x_range1, x_range2, x_enum,
      s_nil, s_cons, s_expr, s_ret, s_retN, s_asg, s_par, s_aug, s_if, s_raise, s_try, s_pass, s_brk, s_cont, h_nil, h_cons, tru_bl, b_add, b_sub, b_addI, b_mulI, b_mod, b_fdiv, a_addI, a_subI, c_eq, c_ne, c_lt, c_le, c_gt, c_ge, c_in, c_nin, c_isN, c_isnotN, eq_int, bindN, bindTp, setA0, setA1, omap, Option.map_some, Option.map_none, add_sv, aug_sv, len_sv, sub_sv, cut_sv, find_sv, find3_sv, index_sv, in_sv, r_index, r_rjust, r_find, r_find3, r_join, if_true, bx, nx, nxc, tx, ny_next, ny_cont, ny_brk, ny_ret, ny_exc, len_app, len_lst, len_tup, tuple_lst, r_app, append_app, add_tup, add_lst, sub_tup, sub_lst, slice_tup, slice_lst, at_0, at_1, at_2, at_3, at_m1, rg1_ok, rg2_ok, Int.toNat_natCast, int_int, abs_int, min_int, max_int, slice_scr, isV]
    exact exit_ret0 rfl
  · exact are_words H k l hl h
theorem comp_words (k : Nat) (xs : List PV) (o : ∀ v ∈ xs, okW v) (hl : xs.length ≤ 16777216) (h : PHeap) :
    evE cfg (run cfg (k + 1)) (.comp (.call 1100 (.cons (.var 1) .nil)) (.name 1) (.seq (.var 0)) .nil [(Str.ofString "one", 1)]) [some (.tup xs), none] h = .ok (.lst (xs.map fun v => .bl (arewV v))) h := by
  refine ev_comp (items := xs) (w := none) (fun v => .bl (arewV v)) (by simp (disch := first | assumption | omega | (simp only [List.length_append, List.length_cons, List.length_nil, List.length_take, List.length_drop, List.length_replicate, List.length_map]; omega)) only [startP, List.map_cons, List.map_nil, List.length_cons, List.length_nil, List.replicate_succ, List.replicate_zero, List.cons_append, List.nil_append, Nat.add_zero, Nat.zero_add, Nat.reduceAdd, Nat.reduceSub, Nat.reduceLT, Nat.reduceLeDiff, List.getElem?_cons_succ, List.getElem?_cons_zero, List.set_cons_succ, List.set_cons_zero, bind_ok, bind_exc, calm_ok, lift_some,
      x_var, x_int, x_lit, x_bl, x_non, x_bin, x_neg, x_cmp, x_chain, x_bool, x_not, x_ite, x_call, x_bcall, x_isi, x_meth, x_tup, x_listT, x_listF, x_sub, x_slice, x_nil, x_cons, x_onone, x_osome, x_tnil, x_tcons, x_b1, x_and, x_or, x_seq, x_range1, x_range2, x_enum,
      s_nil, s_cons, s_expr, s_ret, s_retN, s_asg, s_par, s_aug, s_if, s_raise, s_try, s_pass, s_brk, s_cont, h_nil, h_cons, tru_bl, b_add, b_sub, b_addI, b_mulI, b_mod, b_fdiv, a_addI, a_subI, c_eq, c_ne, c_lt, c_le, c_gt, c_ge, c_in, c_nin, c_isN, c_isnotN, eq_int, bindN, bindTp, setA0, setA1, omap, Option.map_some, Option.map_none, add_sv, aug_sv, len_sv, sub_sv, cut_sv, find_sv, find3_sv, index_sv, in_sv, r_index, r_rjust, r_find, r_find3, r_join, if_true, bx, nx, nxc, tx, ny_next, ny_cont, ny_brk, ny_ret, ny_exc, len_app, len_lst, len_tup, tuple_lst, r_app, append_app, add_tup, add_lst, sub_tup, sub_lst, slice_tup, slice_lst, at_0, at_1, at_2, at_3, at_m1, rg1_ok, rg2_ok, Int.toNat_natCast, int_int, abs_int, min_int, max_int, slice_scr, seqL]) (fun _ => rfl) (by
    intro x hx acc
    refine ⟨_, rfl, ?_⟩
    simp (disch := first | assumption | omega | (simp only [List.length_append, List.length_cons, List.length_nil, List.length_take, List.length_drop, List.length_replicate, List.length_map]; omega)) only [startP, List.map_cons, List.map_nil, List.length_cons, List.length_nil, List.replicate_succ, List.replicate_zero, List.cons_append, List.nil_append, Nat.add_zero, Nat.zero_add, Nat.reduceAdd, Nat.reduceSub, Nat.reduceLT, Nat.reduceLeDiff, List.getElem?_cons_succ, List.getElem?_cons_zero, List.set_cons_succ, List.set_cons_zero, bind_ok, bind_exc, calm_ok, lift_some,
      x_var, x_int, x_lit, x_bl, x_non, x_bin, x_neg, x_cmp, x_chain, x_bool, x_not, x_ite, x_call, x_bcall, x_isi, x_meth, x_tup, x_listT, x_listF, x_sub, x_slice, x_nil, x_cons, x_onone, x_osome, x_tnil, x_tcons, x_b1, x_and, x_or, x_seq, x_range1, x_range2, x_enum,
      s_nil, s_cons, s_expr, s_ret, s_retN, s_asg, s_par, s_aug, s_if, s_raise, s_try, s_pass, s_brk, s_cont, h_nil, h_cons, tru_bl, b_add, b_sub, b_addI, b_mulI, b_mod, b_fdiv, a_addI, a_subI, c_eq, c_ne, c_lt, c_le, c_gt, c_ge, c_in, c_nin, c_isN, c_isnotN, eq_int, bindN, bindTp, setA0, setA1, omap, Option.map_some, Option.map_none, add_sv, aug_sv, len_sv, sub_sv, cut_sv, find_sv, find3_sv, index_sv, in_sv, r_index, r_rjust, r_find, r_find3, r_join, if_true, bx, nx, nxc, tx, ny_next, ny_cont, ny_brk, ny_ret, ny_exc, len_app, len_lst, len_tup, tuple_lst, r_app, append_app, add_tup, add_lst, sub_tup, sub_lst, slice_tup, slice_lst, at_0, at_1, at_2, at_3, at_m1, rg1_ok, rg2_ok, Int.toNat_natCast, int_int, abs_int, min_int, max_int, slice_scr, wipeP]
    exact are_wordsV H k x (o x hx) _) (by rw [line24]; exact hl) (fun _ _ => rfl)
theorem leaves_of (k : Nat) (ws : List (List Nat)) (hw : ∀ w ∈ ws, arew w = true) (hn : ws.length ≤ 99999) (hT : (leafs 0 1 ws).flatten.length ≤ 16777216) (h : PHeap) :
    run cfg (k + 4) 1104 [.tup (ws.map sv)] h = .ok (sv (leafs 0 1 ws).flatten) h := by
  rw [run_succ H.f4 (k + 3) _ _ rfl]
  obtain ⟨x2, g2⟩ := H.g2
  have wl : ∀ w ∈ ws, w.length ≤ 20000 ∧ ∀ c ∈ w, c ∈ SG := fun w m => by
    have := hw w m
    unfold arew at this
    simp only [Bool.and_eq_true, decide_eq_true_eq, List.all_eq_true] at this
    exact ⟨this.1.2, this.2⟩
  have c := comp_words H (k + 2) (ws.map sv) (by
    intro v m
    obtain ⟨w, mw, rfl⟩ := List.mem_map.mp m
    exact .inr ⟨w, by have := (wl w mw).1; omega, rfl⟩) (by simp; omega) h
  have ea : bfV .all h [.lst ((ws.map sv).map fun v => .bl (arewV v))] = some (.bl true) := by
    show (allBl _).map _ = _
    rw [allBl_map]
    show some (PV.bl (((ws.map sv).map arewV).all id)) = _
    congr 2
    rw [List.all_eq_true]
    intro b mb
    obtain ⟨v, mv, rfl⟩ := List.mem_map.mp mb
    obtain ⟨w, mw, rfl⟩ := List.mem_map.mp mv
    exact hw w mw
  have el : bfV .len h [.tup (ws.map sv)] = some (.int (ws.length : Nat)) := by
    show some (PV.int ((ws.map sv).length : Nat)) = _
    rw [List.length_map]
  unfold M_leaves.f_leaves_of
  have e7 : decide ((99999 : Int) < (ws.length : Nat)) = false := decide_eq_false (by omega)
  simp (disch := first | assumption | omega | (simp only [List.length_append, List.length_cons, List.length_nil, List.length_take, List.length_drop, List.length_replicate, List.length_map]; omega)) only [startP, List.map_cons, List.map_nil, List.length_cons, List.length_nil, List.replicate_succ, List.replicate_zero, List.cons_append, List.nil_append, Nat.add_zero, Nat.zero_add, Nat.reduceAdd, Nat.reduceSub, Nat.reduceLT, Nat.reduceLeDiff, List.getElem?_cons_succ, List.getElem?_cons_zero, List.set_cons_succ, List.set_cons_zero, bind_ok, bind_exc, calm_ok, lift_some,
      x_var, x_int, x_lit, x_bl, x_non, x_bin, x_neg, x_cmp, x_chain, x_bool, x_not, x_ite, x_call, x_bcall, x_isi, x_meth, x_tup, x_listT, x_listF, x_sub, x_slice, x_nil, x_cons, x_onone, x_osome, x_tnil, x_tcons, x_b1, x_and, x_or, x_seq, x_range1, x_range2, x_enum,
      s_nil, s_cons, s_expr, s_ret, s_retN, s_asg, s_par, s_aug, s_if, s_raise, s_try, s_pass, s_brk, s_cont, h_nil, h_cons, tru_bl, b_add, b_sub, b_addI, b_mulI, b_mod, b_fdiv, a_addI, a_subI, c_eq, c_ne, c_lt, c_le, c_gt, c_ge, c_in, c_nin, c_isN, c_isnotN, eq_int, bindN, bindTp, setA0, setA1, omap, Option.map_some, Option.map_none, add_sv, aug_sv, len_sv, sub_sv, cut_sv, find_sv, find3_sv, index_sv, in_sv, r_index, r_rjust, r_find, r_find3, r_join, if_true, bx, nx, nxc, tx, ny_next, ny_cont, ny_brk, ny_ret, ny_exc, len_app, len_lst, len_tup, tuple_lst, r_app, append_app, add_tup, add_lst, sub_tup, sub_lst, slice_tup, slice_lst, at_0, at_1, at_2, at_3, at_m1, rg1_ok, rg2_ok, Int.toNat_natCast, int_int, abs_int, min_int, max_int, slice_scr, isV, c, ea, Bool.not_true, el, x_glob g2, e7, leaves_by H k ws (fun w m => ⟨by have := (wl w m).1; omega, (wl w m).2⟩) (by omega) hT]
  exact exit_ret0 rfl
theorem leaves_of_bad (k : Nat) (v : PV) (hv : isV .tuple v = some false ∨ ∃ xs, v = .tup xs ∧ (∀ x ∈ xs, okW x) ∧ xs.length ≤ 16777216 ∧ (xs.all arewV) = false) (h : PHeap) : run cfg (k + 2) 1104 [v] h = .exc 19 h := by
  rw [run_succ H.f4 (k + 1) _ _ rfl]
  unfold M_leaves.f_leaves_of
  rcases hv with hv | ⟨xs, rfl, o, hl, ha⟩
  · simp (disch := first | assumption | omega | (simp only [List.length_append, List.length_cons, List.length_nil, List.length_take, List.length_drop, List.length_replicate, List.length_map]; omega)) only [startP, List.map_cons, List.map_nil, List.length_cons, List.length_nil, List.replicate_succ, List.replicate_zero, List.cons_append, List.nil_append, Nat.add_zero, Nat.zero_add, Nat.reduceAdd, Nat.reduceSub, Nat.reduceLT, Nat.reduceLeDiff, List.getElem?_cons_succ, List.getElem?_cons_zero, List.set_cons_succ, List.set_cons_zero, bind_ok, bind_exc, calm_ok, lift_some,
      x_var, x_int, x_lit, x_bl, x_non, x_bin, x_neg, x_cmp, x_chain, x_bool, x_not, x_ite, x_call, x_bcall, x_isi, x_meth, x_tup, x_listT, x_listF, x_sub, x_slice, x_nil, x_cons, x_onone, x_osome, x_tnil, x_tcons, x_b1, x_and, x_or, x_seq, x_range1, x_range2, x_enum,
      s_nil, s_cons, s_expr, s_ret, s_retN, s_asg, s_par, s_aug, s_if, s_raise, s_try, s_pass, s_brk, s_cont, h_nil, h_cons, tru_bl, b_add, b_sub, b_addI, b_mulI, b_mod, b_fdiv, a_addI, a_subI, c_eq, c_ne, c_lt, c_le, c_gt, c_ge, c_in, c_nin, c_isN, c_isnotN, eq_int, bindN, bindTp, setA0, setA1, omap, Option.map_some, Option.map_none, add_sv, aug_sv, len_sv, sub_sv, cut_sv, find_sv, find3_sv, index_sv, in_sv, r_index, r_rjust, r_find, r_find3, r_join, if_true, bx, nx, nxc, tx, ny_next, ny_cont, ny_brk, ny_ret, ny_exc, len_app, len_lst, len_tup, tuple_lst, r_app, append_app, add_tup, add_lst, sub_tup, sub_lst, slice_tup, slice_lst, at_0, at_1, at_2, at_3, at_m1, rg1_ok, rg2_ok, Int.toNat_natCast, int_int, abs_int, min_int, max_int, slice_scr, hv, Bool.not_false]
    exact exit_exc0
  · have c := comp_words H k xs o hl h
    have ea : bfV .all h [.lst (xs.map fun v => .bl (arewV v))] = some (.bl false) := by
      show (allBl _).map _ = _
      rw [allBl_map]
      show some (PV.bl ((xs.map arewV).all id)) = _
      rw [List.all_map]
      congr 2
    simp (disch := first | assumption | omega | (simp only [List.length_append, List.length_cons, List.length_nil, List.length_take, List.length_drop, List.length_replicate, List.length_map]; omega)) only [startP, List.map_cons, List.map_nil, List.length_cons, List.length_nil, List.replicate_succ, List.replicate_zero, List.cons_append, List.nil_append, Nat.add_zero, Nat.zero_add, Nat.reduceAdd, Nat.reduceSub, Nat.reduceLT, Nat.reduceLeDiff, List.getElem?_cons_succ, List.getElem?_cons_zero, List.set_cons_succ, List.set_cons_zero, bind_ok, bind_exc, calm_ok, lift_some,
      x_var, x_int, x_lit, x_bl, x_non, x_bin, x_neg, x_cmp, x_chain, x_bool, x_not, x_ite, x_call, x_bcall, x_isi, x_meth, x_tup, x_listT, x_listF, x_sub, x_slice, x_nil, x_cons, x_onone, x_osome, x_tnil, x_tcons, x_b1, x_and, x_or, x_seq, x_range1, x_range2, x_enum,
      s_nil, s_cons, s_expr, s_ret, s_retN, s_asg, s_par, s_aug, s_if, s_raise, s_try, s_pass, s_brk, s_cont, h_nil, h_cons, tru_bl, b_add, b_sub, b_addI, b_mulI, b_mod, b_fdiv, a_addI, a_subI, c_eq, c_ne, c_lt, c_le, c_gt, c_ge, c_in, c_nin, c_isN, c_isnotN, eq_int, bindN, bindTp, setA0, setA1, omap, Option.map_some, Option.map_none, add_sv, aug_sv, len_sv, sub_sv, cut_sv, find_sv, find3_sv, index_sv, in_sv, r_index, r_rjust, r_find, r_find3, r_join, if_true, bx, nx, nxc, tx, ny_next, ny_cont, ny_brk, ny_ret, ny_exc, len_app, len_lst, len_tup, tuple_lst, r_app, append_app, add_tup, add_lst, sub_tup, sub_lst, slice_tup, slice_lst, at_0, at_1, at_2, at_3, at_m1, rg1_ok, rg2_ok, Int.toNat_natCast, int_int, abs_int, min_int, max_int, slice_scr, isV, c, ea, Bool.not_true, Bool.not_false]
    exact exit_exc0
theorem check_text (k : Nat) (v : PV) (b : Bool) (hv : isV .str v = some b) (h : PHeap) : run cfg (k + 1) 1107 [v] h = if b then .ok .non h else .exc 20 h := by
  rw [run_succ H.f7 k _ _ rfl]
  unfold M_leaves.f_check_text
  cases b with
  | true =>
    simp (disch := first | assumption | omega | (simp only [List.length_append, List.length_cons, List.length_nil, List.length_take, List.length_drop, List.length_replicate, List.length_map]; omega)) only [startP, List.map_cons, List.map_nil, List.length_cons, List.length_nil, List.replicate_succ, List.replicate_zero, List.cons_append, List.nil_append, Nat.add_zero, Nat.zero_add, Nat.reduceAdd, Nat.reduceSub, Nat.reduceLT, Nat.reduceLeDiff, List.getElem?_cons_succ, List.getElem?_cons_zero, List.set_cons_succ, List.set_cons_zero, bind_ok, bind_exc, calm_ok, lift_some,
      x_var, x_int, x_lit, x_bl, x_non, x_bin, x_neg, x_cmp, x_chain, x_bool, x_not, x_ite, x_call, x_bcall, x_isi, x_meth, x_tup, x_listT, x_listF, x_sub, x_slice, x_nil, x_cons, x_onone, x_osome, x_tnil, x_tcons, x_b1, x_and, x_or, x_seq, x_range1, x_range2, x_enum,
      s_nil, s_cons, s_expr, s_ret, s_retN, s_asg, s_par, s_aug, s_if, s_raise, s_try, s_pass, s_brk, s_cont, h_nil, h_cons, tru_bl, b_add, b_sub, b_addI, b_mulI, b_mod, b_fdiv, a_addI, a_subI, c_eq, c_ne, c_lt, c_le, c_gt, c_ge, c_in, c_nin, c_isN, c_isnotN, eq_int, bindN, bindTp, setA0, setA1, omap, Option.map_some, Option.map_none, add_sv, aug_sv, len_sv, sub_sv, cut_sv, find_sv, find3_sv, index_sv, in_sv, r_index, r_rjust, r_find, r_find3, r_join, if_true, bx, nx, nxc, tx, ny_next, ny_cont, ny_brk, ny_ret, ny_exc, len_app, len_lst, len_tup, tuple_lst, r_app, append_app, add_tup, add_lst, sub_tup, sub_lst, slice_tup, slice_lst, at_0, at_1, at_2, at_3, at_m1, rg1_ok, rg2_ok, Int.toNat_natCast, int_int, abs_int, min_int, max_int, slice_scr, hv, Bool.not_true]
    exact exit_next0
  | false =>
    simp (disch := first | assumption | omega | (simp only [List.length_append, List.length_cons, List.length_nil, List.length_take, List.length_drop, List.length_replicate, List.length_map]; omega)) only [startP, List.map_cons, List.map_nil, List.length_cons, List.length_nil, List.replicate_succ, List.replicate_zero, List.cons_append, List.nil_append, Nat.add_zero, Nat.zero_add, Nat.reduceAdd, Nat.reduceSub, Nat.reduceLT, Nat.reduceLeDiff, List.getElem?_cons_succ, List.getElem?_cons_zero, List.set_cons_succ, List.set_cons_zero, bind_ok, bind_exc, calm_ok, lift_some,
      x_var, x_int, x_lit, x_bl, x_non, x_bin, x_neg, x_cmp, x_chain, x_bool, x_not, x_ite, x_call, x_bcall, x_isi, x_meth, x_tup, x_listT, x_listF, x_sub, x_slice, x_nil, x_cons, x_onone, x_osome, x_tnil, x_tcons, x_b1, x_and, x_or, x_seq, x_range1, x_range2, x_enum,
      s_nil, s_cons, s_expr, s_ret, s_retN, s_asg, s_par, s_aug, s_if, s_raise, s_try, s_pass, s_brk, s_cont, h_nil, h_cons, tru_bl, b_add, b_sub, b_addI, b_mulI, b_mod, b_fdiv, a_addI, a_subI, c_eq, c_ne, c_lt, c_le, c_gt, c_ge, c_in, c_nin, c_isN, c_isnotN, eq_int, bindN, bindTp, setA0, setA1, omap, Option.map_some, Option.map_none, add_sv, aug_sv, len_sv, sub_sv, cut_sv, find_sv, find3_sv, index_sv, in_sv, r_index, r_rjust, r_find, r_find3, r_join, if_true, bx, nx, nxc, tx, ny_next, ny_cont, ny_brk, ny_ret, ny_exc, len_app, len_lst, len_tup, tuple_lst, r_app, append_app, add_tup, add_lst, sub_tup, sub_lst, slice_tup, slice_lst, at_0, at_1, at_2, at_3, at_m1, rg1_ok, rg2_ok, Int.toNat_natCast, int_int, abs_int, min_int, max_int, slice_scr, hv, Bool.not_false]
    exact exit_exc0
end
end Lv
end
section
set_option Elab.async false
set_option linter.all false
set_option maxRecDepth 100000
set_option maxHeartbeats 4000000
/-! resumetrue.leaves: leaves read. -/
namespace Lv
open PySem Fx
open SX (S)
open L2 (atI)
def begB (due : Nat) : List Nat := TL.numL due ++ [32]
/-- a row's head and words, if it has the form -/
def rowP (a due : Nat) (l : List Nat) : Option (List Nat × Nat) :=
  let head := l.take (l.length - 6)
  let total := l.drop (l.length - 6)
  let begin := begB due
  if total.take 1 ≠ [35] ∨ head.take begin.length ≠ begin ∨ head.drop (head.length - 1) ≠ [32] ∨ head.length ≤ begin.length then none
  else if arew ((head.take (head.length - 1)).drop begin.length) = false then none
  else if total.drop 1 = pad5 (sumBy a head) then some ((head.take (head.length - 1)).drop begin.length, sumBy a head) else none
theorem okL_app {a b : List Nat} : okL (a ++ b) = (okL a && okL b) := by simp [okL]
theorem okL_take {a : List Nat} (n : Nat) (h : okL a = true) : okL (a.take n) = true := by
  unfold okL at h ⊢
  rw [List.all_eq_true] at h ⊢
  exact fun x m => h x (List.mem_of_mem_take m)
theorem okL_drop {a : List Nat} (n : Nat) (h : okL a = true) : okL (a.drop n) = true := by
  unfold okL at h ⊢
  rw [List.all_eq_true] at h ⊢
  exact fun x m => h x (List.mem_of_mem_drop m)
theorem okL_num (n : Nat) : okL (TL.numL n) = true := by
  unfold okL
  rw [List.all_eq_true]
  intro c m
  have := TL.numL_digits n c m
  have q := this.2
  exact decide_eq_true (by omega)
theorem okL_beg (n : Nat) : okL (begB n) = true := by unfold begB; rw [okL_app, okL_num]; rfl
theorem okL_pad (n : Nat) : okL (pad5 n) = true := by
  unfold pad5
  rw [okL_app, okL_num, Bool.and_true]
  unfold okL
  rw [List.all_eq_true]
  intro c m
  rw [(List.mem_replicate.mp m).2]
  decide
theorem beg_len {n : Nat} (h : n < 1000000000) : (begB n).length ≤ 10 := by
  have := num_len h
  unfold begB
  simp only [List.length_append, List.length_cons, List.length_nil]
  omega
theorem cut_m1 {α : Type} (xs : List α) : cutP xs (some (-1)) none = xs.drop (xs.length - 1) := cut_tail xs 1 (by decide)
theorem cut_m6 {α : Type} (xs : List α) : cutP xs (some (-6)) none = xs.drop (xs.length - 6) := cut_tail xs 6 (by decide)
theorem cut_a6 {α : Type} (xs : List α) : cutP xs none (some (-6)) = xs.take (xs.length - 6) := cut_ahead xs 6 (by decide)
theorem cut_1 {α : Type} (xs : List α) : cutP xs none (some 1) = xs.take 1 := cut_to xs 1
theorem cut_f1 {α : Type} (xs : List α) : cutP xs (some 1) none = xs.drop 1 := cut_from xs 1
theorem cut_nm1 {α : Type} (xs : List α) (n : Nat) : cutP xs (some (n : Int)) (some (-1)) = (xs.take (xs.length - 1)).drop n := cut_both xs n 1 (by decide)
def rowV : Option (List Nat × Nat) → PV
  | some (w, o) => .tup [sv w, .int o]
  | none => .non
theorem dne {p : Prop} [Decidable p] (h : ¬ p) : decide p = false := decide_eq_false h
section
variable {cfg : Cfg} (H : HasLeaves cfg)
include H
theorem row (k a due : Nat) (l : List Nat) (hd : due < 1000000000) (hl : l.length ≤ 16000000) (ho : okL l = true) (h : PHeap) :
    run cfg (k + 2) 1105 [.int a, .int due, sv l] h = .ok (rowV (rowP a due l)) h := by
  rw [run_succ H.f5 (k + 1) _ _ rfl]
  obtain ⟨x5, g5⟩ := H.g5
  have ln := line24
  have b9 := beg_len hd
  have eb : TL.numL due ++ [32] = begB due := rfl
  have n9 := num_len hd
  have o1 := okL_beg due
  unfold M_leaves.f__row rowP
  simp only
  simp (disch := first | assumption | omega | (simp only [List.length_append, List.length_cons, List.length_nil, List.length_take, List.length_drop, List.length_replicate, List.length_map]; omega)) only [startP, List.map_cons, List.map_nil, List.length_cons, List.length_nil, List.replicate_succ, List.replicate_zero, List.cons_append, List.nil_append, Nat.add_zero, Nat.zero_add, Nat.reduceAdd, Nat.reduceSub, Nat.reduceLT, Nat.reduceLeDiff, List.getElem?_cons_succ, List.getElem?_cons_zero, List.set_cons_succ, List.set_cons_zero, bind_ok, bind_exc, calm_ok, lift_some,
      x_var, x_int, x_lit, x_bl, x_non, x_bin, x_neg, x_cmp, x_chain, x_bool, x_not, x_ite, x_call, x_bcall, x_isi, x_meth, x_tup, x_listT, x_listF, x_sub, x_slice, x_nil, x_cons, x_onone, x_osome, x_tnil, x_tcons, x_b1, x_and, x_or, x_seq, x_range1, x_range2, x_enum,
      s_nil, s_cons, s_expr, s_ret, s_retN, s_asg, s_par, s_aug, s_if, s_raise, s_try, s_pass, s_brk, s_cont, h_nil, h_cons, tru_bl, b_add, b_sub, b_addI, b_mulI, b_mod, b_fdiv, a_addI, a_subI, c_eq, c_ne, c_lt, c_le, c_gt, c_ge, c_in, c_nin, c_isN, c_isnotN, eq_int, bindN, bindTp, setA0, setA1, omap, Option.map_some, Option.map_none, add_sv, aug_sv, len_sv, sub_sv, cut_sv, find_sv, find3_sv, index_sv, in_sv, r_index, r_rjust, r_find, r_find3, r_join, if_true, bx, nx, nxc, tx, ny_next, ny_cont, ny_brk, ny_ret, ny_exc, len_app, len_lst, len_tup, tuple_lst, r_app, append_app, add_tup, add_lst, sub_tup, sub_lst, slice_tup, slice_lst, at_0, at_1, at_2, at_3, at_m1, rg1_ok, rg2_ok, Int.toNat_natCast, int_int, abs_int, min_int, max_int, slice_scr, x_glob g5, Int.reduceSub, cut_a6, cut_m6, b_str, l_sp, l_hash, eb, cut_1, cut_to, cut_m1]
  generalize hh : l.take (l.length - 6) = head
  generalize ht : l.drop (l.length - 6) = total
  have oh : okL head = true := by rw [← hh]; exact okL_take _ ho
  have ot : okL total = true := by rw [← ht]; exact okL_drop _ ho
  have lh : head.length ≤ 16000000 := by rw [← hh]; simp only [List.length_take]; omega
  have lt : total.length ≤ 16000000 := by rw [← ht]; simp only [List.length_drop]; omega
  have q1 : ∀ g, eqV g (sv (total.take 1)) (sv [35]) = some (decide (total.take 1 = [35])) := fun g => eq_sv g _ _ (okL_take 1 ot) rfl
  have q2 : ∀ g, eqV g (sv (head.take (begB due).length)) (sv (begB due)) = some (decide (head.take (begB due).length = begB due)) := fun g => eq_sv g _ _ (okL_take _ oh) o1
  have q3 : ∀ g, eqV g (sv (head.drop (head.length - 1))) (sv [32]) = some (decide (head.drop (head.length - 1) = [32])) := fun g => eq_sv g _ _ (okL_drop _ oh) rfl
  rw [q1]
  by_cases c1 : total.take 1 = [35]
  · by_cases c2 : head.take (begB due).length = begB due
    · by_cases c3 : head.drop (head.length - 1) = [32]
      · by_cases c4 : head.length ≤ (begB due).length
        · rw [if_pos (.inr (.inr (.inr c4)))]
          have c4' : decide ((head.length : Int) ≤ ((begB due).length : Int)) = true := decide_eq_true (by omega)
          simp (disch := first | assumption | omega | (simp only [List.length_append, List.length_cons, List.length_nil, List.length_take, List.length_drop, List.length_replicate, List.length_map]; omega)) only [startP, List.map_cons, List.map_nil, List.length_cons, List.length_nil, List.replicate_succ, List.replicate_zero, List.cons_append, List.nil_append, Nat.add_zero, Nat.zero_add, Nat.reduceAdd, Nat.reduceSub, Nat.reduceLT, Nat.reduceLeDiff, List.getElem?_cons_succ, List.getElem?_cons_zero, List.set_cons_succ, List.set_cons_zero, bind_ok, bind_exc, calm_ok, lift_some,
      x_var, x_int, x_lit, x_bl, x_non, x_bin, x_neg, x_cmp, x_chain, x_bool, x_not, x_ite, x_call, x_bcall, x_isi, x_meth, x_tup, x_listT, x_listF, x_sub, x_slice, x_nil, x_cons, x_onone, x_osome, x_tnil, x_tcons, x_b1, x_and, x_or, x_seq, x_range1, x_range2, x_enum,
      s_nil, s_cons, s_expr, s_ret, s_retN, s_asg, s_par, s_aug, s_if, s_raise, s_try, s_pass, s_brk, s_cont, h_nil, h_cons, tru_bl, b_add, b_sub, b_addI, b_mulI, b_mod, b_fdiv, a_addI, a_subI, c_eq, c_ne, c_lt, c_le, c_gt, c_ge, c_in, c_nin, c_isN, c_isnotN, eq_int, bindN, bindTp, setA0, setA1, omap, Option.map_some, Option.map_none, add_sv, aug_sv, len_sv, sub_sv, cut_sv, find_sv, find3_sv, index_sv, in_sv, r_index, r_rjust, r_find, r_find3, r_join, if_true, bx, nx, nxc, tx, ny_next, ny_cont, ny_brk, ny_ret, ny_exc, len_app, len_lst, len_tup, tuple_lst, r_app, append_app, add_tup, add_lst, sub_tup, sub_lst, slice_tup, slice_lst, at_0, at_1, at_2, at_3, at_m1, rg1_ok, rg2_ok, Int.toNat_natCast, int_int, abs_int, min_int, max_int, slice_scr, decide_eq_true c1, Bool.not_true, q2, decide_eq_true c2, q3, decide_eq_true c3, c4']
          exact exit_ret0 rfl
        · rw [if_neg (fun z => by
            rcases z with z | z | z | z
            · exact z c1
            · exact z c2
            · exact z c3
            · exact c4 z)]
          have c4' : decide ((head.length : Int) ≤ ((begB due).length : Int)) = false := decide_eq_false (by omega)
          generalize hw : (head.take (head.length - 1)).drop (begB due).length = words
          have lw : words.length ≤ 16777216 := by rw [← hw]; simp only [List.length_drop, List.length_take]; omega
          have aw := are_words H k words lw h
          cases ca : arew words with
          | false =>
            rw [if_pos rfl]
            simp (disch := first | assumption | omega | (simp only [List.length_append, List.length_cons, List.length_nil, List.length_take, List.length_drop, List.length_replicate, List.length_map]; omega)) only [startP, List.map_cons, List.map_nil, List.length_cons, List.length_nil, List.replicate_succ, List.replicate_zero, List.cons_append, List.nil_append, Nat.add_zero, Nat.zero_add, Nat.reduceAdd, Nat.reduceSub, Nat.reduceLT, Nat.reduceLeDiff, List.getElem?_cons_succ, List.getElem?_cons_zero, List.set_cons_succ, List.set_cons_zero, bind_ok, bind_exc, calm_ok, lift_some,
      x_var, x_int, x_lit, x_bl, x_non, x_bin, x_neg, x_cmp, x_chain, x_bool, x_not, x_ite, x_call, x_bcall, x_isi, x_meth, x_tup, x_listT, x_listF, x_sub, x_slice, x_nil, x_cons, x_onone, x_osome, x_tnil, x_tcons, x_b1, x_and, x_or, x_seq, x_range1, x_range2, x_enum,
      s_nil, s_cons, s_expr, s_ret, s_retN, s_asg, s_par, s_aug, s_if, s_raise, s_try, s_pass, s_brk, s_cont, h_nil, h_cons, tru_bl, b_add, b_sub, b_addI, b_mulI, b_mod, b_fdiv, a_addI, a_subI, c_eq, c_ne, c_lt, c_le, c_gt, c_ge, c_in, c_nin, c_isN, c_isnotN, eq_int, bindN, bindTp, setA0, setA1, omap, Option.map_some, Option.map_none, add_sv, aug_sv, len_sv, sub_sv, cut_sv, find_sv, find3_sv, index_sv, in_sv, r_index, r_rjust, r_find, r_find3, r_join, if_true, bx, nx, nxc, tx, ny_next, ny_cont, ny_brk, ny_ret, ny_exc, len_app, len_lst, len_tup, tuple_lst, r_app, append_app, add_tup, add_lst, sub_tup, sub_lst, slice_tup, slice_lst, at_0, at_1, at_2, at_3, at_m1, rg1_ok, rg2_ok, Int.toNat_natCast, int_int, abs_int, min_int, max_int, slice_scr, decide_eq_true c1, Bool.not_true, Bool.not_false, q2, decide_eq_true c2, q3, decide_eq_true c3, c4', cut_nm1, hw, aw, ca]
            exact exit_ret0 rfl
          | true =>
            rw [if_neg (by decide)]
            have hs : ∀ c ∈ head, c ∈ SG := by
              intro c mc
              have e1 : head = (head.take (head.length - 1)).take (begB due).length ++ (head.take (head.length - 1)).drop (begB due).length ++ head.drop (head.length - 1) := by
                rw [List.take_append_drop, List.take_append_drop]
              rw [e1, hw, c3] at mc
              simp only [List.mem_append, List.mem_singleton] at mc
              rcases mc with (m | m) | m
              · have e2 : (head.take (head.length - 1)).take (begB due).length = begB due := by
                  rw [List.take_take, Nat.min_eq_left (by omega)]
                  exact c2
                rw [e2] at m
                unfold begB at m
                simp only [List.mem_append, List.mem_singleton] at m
                rcases m with m | rfl
                · exact num_SG m
                · exact sp_SG
              · unfold arew at ca
                simp only [Bool.and_eq_true, decide_eq_true_eq, List.all_eq_true] at ca
                exact ca.2 c m
              · rw [m]; exact sp_SG
            have sb := sum_by H k a head (by omega) hs h
            have sl := sum_lt a head
            have p5 : List.replicate (5 - (TL.numL (sumBy a head)).length) 48 ++ TL.numL (sumBy a head) = pad5 (sumBy a head) := rfl
            have q4 : ∀ g, eqV g (sv (total.drop 1)) (sv (pad5 (sumBy a head))) = some (decide (total.drop 1 = pad5 (sumBy a head))) := fun g => eq_sv g _ _ (okL_drop _ ot) (okL_pad _)
            by_cases c5 : total.drop 1 = pad5 (sumBy a head)
            · rw [if_pos c5]
              simp (disch := first | assumption | omega | (simp only [List.length_append, List.length_cons, List.length_nil, List.length_take, List.length_drop, List.length_replicate, List.length_map]; omega)) only [startP, List.map_cons, List.map_nil, List.length_cons, List.length_nil, List.replicate_succ, List.replicate_zero, List.cons_append, List.nil_append, Nat.add_zero, Nat.zero_add, Nat.reduceAdd, Nat.reduceSub, Nat.reduceLT, Nat.reduceLeDiff, List.getElem?_cons_succ, List.getElem?_cons_zero, List.set_cons_succ, List.set_cons_zero, bind_ok, bind_exc, calm_ok, lift_some,
      x_var, x_int, x_lit, x_bl, x_non, x_bin, x_neg, x_cmp, x_chain, x_bool, x_not, x_ite, x_call, x_bcall, x_isi, x_meth, x_tup, x_listT, x_listF, x_sub, x_slice, x_nil, x_cons, x_onone, x_osome, x_tnil, x_tcons, x_b1, x_and, x_or, x_seq, x_range1, x_range2, x_enum,
      s_nil, s_cons, s_expr, s_ret, s_retN, s_asg, s_par, s_aug, s_if, s_raise, s_try, s_pass, s_brk, s_cont, h_nil, h_cons, tru_bl, b_add, b_sub, b_addI, b_mulI, b_mod, b_fdiv, a_addI, a_subI, c_eq, c_ne, c_lt, c_le, c_gt, c_ge, c_in, c_nin, c_isN, c_isnotN, eq_int, bindN, bindTp, setA0, setA1, omap, Option.map_some, Option.map_none, add_sv, aug_sv, len_sv, sub_sv, cut_sv, find_sv, find3_sv, index_sv, in_sv, r_index, r_rjust, r_find, r_find3, r_join, if_true, bx, nx, nxc, tx, ny_next, ny_cont, ny_brk, ny_ret, ny_exc, len_app, len_lst, len_tup, tuple_lst, r_app, append_app, add_tup, add_lst, sub_tup, sub_lst, slice_tup, slice_lst, at_0, at_1, at_2, at_3, at_m1, rg1_ok, rg2_ok, Int.toNat_natCast, int_int, abs_int, min_int, max_int, slice_scr, decide_eq_true c1, Bool.not_true, Bool.not_false, q2, decide_eq_true c2, q3, decide_eq_true c3, c4', cut_nm1, hw, aw, ca, sb, x_glob g5, Int.reduceSub, cut_f1, b_str, l_0, rjust5, p5, q4, decide_eq_true c5]
              exact exit_ret0 rfl
            · rw [if_neg c5]
              simp (disch := first | assumption | omega | (simp only [List.length_append, List.length_cons, List.length_nil, List.length_take, List.length_drop, List.length_replicate, List.length_map]; omega)) only [startP, List.map_cons, List.map_nil, List.length_cons, List.length_nil, List.replicate_succ, List.replicate_zero, List.cons_append, List.nil_append, Nat.add_zero, Nat.zero_add, Nat.reduceAdd, Nat.reduceSub, Nat.reduceLT, Nat.reduceLeDiff, List.getElem?_cons_succ, List.getElem?_cons_zero, List.set_cons_succ, List.set_cons_zero, bind_ok, bind_exc, calm_ok, lift_some,
      x_var, x_int, x_lit, x_bl, x_non, x_bin, x_neg, x_cmp, x_chain, x_bool, x_not, x_ite, x_call, x_bcall, x_isi, x_meth, x_tup, x_listT, x_listF, x_sub, x_slice, x_nil, x_cons, x_onone, x_osome, x_tnil, x_tcons, x_b1, x_and, x_or, x_seq, x_range1, x_range2, x_enum,
      s_nil, s_cons, s_expr, s_ret, s_retN, s_asg, s_par, s_aug, s_if, s_raise, s_try, s_pass, s_brk, s_cont, h_nil, h_cons, tru_bl, b_add, b_sub, b_addI, b_mulI, b_mod, b_fdiv, a_addI, a_subI, c_eq, c_ne, c_lt, c_le, c_gt, c_ge, c_in, c_nin, c_isN, c_isnotN, eq_int, bindN, bindTp, setA0, setA1, omap, Option.map_some, Option.map_none, add_sv, aug_sv, len_sv, sub_sv, cut_sv, find_sv, find3_sv, index_sv, in_sv, r_index, r_rjust, r_find, r_find3, r_join, if_true, bx, nx, nxc, tx, ny_next, ny_cont, ny_brk, ny_ret, ny_exc, len_app, len_lst, len_tup, tuple_lst, r_app, append_app, add_tup, add_lst, sub_tup, sub_lst, slice_tup, slice_lst, at_0, at_1, at_2, at_3, at_m1, rg1_ok, rg2_ok, Int.toNat_natCast, int_int, abs_int, min_int, max_int, slice_scr, decide_eq_true c1, Bool.not_true, Bool.not_false, q2, decide_eq_true c2, q3, decide_eq_true c3, c4', cut_nm1, hw, aw, ca, sb, x_glob g5, Int.reduceSub, cut_f1, b_str, l_0, rjust5, p5, q4, decide_eq_false c5]
              exact exit_ret0 rfl
      · rw [if_pos (.inr (.inr (.inl c3)))]
        simp (disch := first | assumption | omega | (simp only [List.length_append, List.length_cons, List.length_nil, List.length_take, List.length_drop, List.length_replicate, List.length_map]; omega)) only [startP, List.map_cons, List.map_nil, List.length_cons, List.length_nil, List.replicate_succ, List.replicate_zero, List.cons_append, List.nil_append, Nat.add_zero, Nat.zero_add, Nat.reduceAdd, Nat.reduceSub, Nat.reduceLT, Nat.reduceLeDiff, List.getElem?_cons_succ, List.getElem?_cons_zero, List.set_cons_succ, List.set_cons_zero, bind_ok, bind_exc, calm_ok, lift_some,
      x_var, x_int, x_lit, x_bl, x_non, x_bin, x_neg, x_cmp, x_chain, x_bool, x_not, x_ite, x_call, x_bcall, x_isi, x_meth, x_tup, x_listT, x_listF, x_sub, x_slice, x_nil, x_cons, x_onone, x_osome, x_tnil, x_tcons, x_b1, x_and, x_or, x_seq, x_range1, x_range2, x_enum,
      s_nil, s_cons, s_expr, s_ret, s_retN, s_asg, s_par, s_aug, s_if, s_raise, s_try, s_pass, s_brk, s_cont, h_nil, h_cons, tru_bl, b_add, b_sub, b_addI, b_mulI, b_mod, b_fdiv, a_addI, a_subI, c_eq, c_ne, c_lt, c_le, c_gt, c_ge, c_in, c_nin, c_isN, c_isnotN, eq_int, bindN, bindTp, setA0, setA1, omap, Option.map_some, Option.map_none, add_sv, aug_sv, len_sv, sub_sv, cut_sv, find_sv, find3_sv, index_sv, in_sv, r_index, r_rjust, r_find, r_find3, r_join, if_true, bx, nx, nxc, tx, ny_next, ny_cont, ny_brk, ny_ret, ny_exc, len_app, len_lst, len_tup, tuple_lst, r_app, append_app, add_tup, add_lst, sub_tup, sub_lst, slice_tup, slice_lst, at_0, at_1, at_2, at_3, at_m1, rg1_ok, rg2_ok, Int.toNat_natCast, int_int, abs_int, min_int, max_int, slice_scr, decide_eq_true c1, Bool.not_true, q2, decide_eq_true c2, q3, decide_eq_false c3, Bool.not_false]
        exact exit_ret0 rfl
    · rw [if_pos (.inr (.inl c2))]
      simp (disch := first | assumption | omega | (simp only [List.length_append, List.length_cons, List.length_nil, List.length_take, List.length_drop, List.length_replicate, List.length_map]; omega)) only [startP, List.map_cons, List.map_nil, List.length_cons, List.length_nil, List.replicate_succ, List.replicate_zero, List.cons_append, List.nil_append, Nat.add_zero, Nat.zero_add, Nat.reduceAdd, Nat.reduceSub, Nat.reduceLT, Nat.reduceLeDiff, List.getElem?_cons_succ, List.getElem?_cons_zero, List.set_cons_succ, List.set_cons_zero, bind_ok, bind_exc, calm_ok, lift_some,
      x_var, x_int, x_lit, x_bl, x_non, x_bin, x_neg, x_cmp, x_chain, x_bool, x_not, x_ite, x_call, x_bcall, x_isi, x_meth, x_tup, x_listT, x_listF, x_sub, x_slice, x_nil, x_cons, x_onone, x_osome, x_tnil, x_tcons, x_b1, x_and, x_or, x_seq, x_range1, x_range2, x_enum,
      s_nil, s_cons, s_expr, s_ret, s_retN, s_asg, s_par, s_aug, s_if, s_raise, s_try, s_pass, s_brk, s_cont, h_nil, h_cons, tru_bl, b_add, b_sub, b_addI, b_mulI, b_mod, b_fdiv, a_addI, a_subI, c_eq, c_ne, c_lt, c_le, c_gt, c_ge, c_in, c_nin, c_isN, c_isnotN, eq_int, bindN, bindTp, setA0, setA1, omap, Option.map_some, Option.map_none, add_sv, aug_sv, len_sv, sub_sv, cut_sv, find_sv, find3_sv, index_sv, in_sv, r_index, r_rjust, r_find, r_find3, r_join, if_true, bx, nx, nxc, tx, ny_next, ny_cont, ny_brk, ny_ret, ny_exc, len_app, len_lst, len_tup, tuple_lst, r_app, append_app, add_tup, add_lst, sub_tup, sub_lst, slice_tup, slice_lst, at_0, at_1, at_2, at_3, at_m1, rg1_ok, rg2_ok, Int.toNat_natCast, int_int, abs_int, min_int, max_int, slice_scr, decide_eq_true c1, Bool.not_true, q2, decide_eq_false c2, Bool.not_false]
      exact exit_ret0 rfl
  · rw [if_pos (.inl c1)]
    simp (disch := first | assumption | omega | (simp only [List.length_append, List.length_cons, List.length_nil, List.length_take, List.length_drop, List.length_replicate, List.length_map]; omega)) only [startP, List.map_cons, List.map_nil, List.length_cons, List.length_nil, List.replicate_succ, List.replicate_zero, List.cons_append, List.nil_append, Nat.add_zero, Nat.zero_add, Nat.reduceAdd, Nat.reduceSub, Nat.reduceLT, Nat.reduceLeDiff, List.getElem?_cons_succ, List.getElem?_cons_zero, List.set_cons_succ, List.set_cons_zero, bind_ok, bind_exc, calm_ok, lift_some,
      x_var, x_int, x_lit, x_bl, x_non, x_bin, x_neg, x_cmp, x_chain, x_bool, x_not, x_ite, x_call, x_bcall, x_isi, x_meth, x_tup, x_listT, x_listF, x_sub, x_slice, x_nil, x_cons, x_onone, x_osome, x_tnil, x_tcons, x_b1, x_and, x_or, x_seq, x_range1, x_range2, x_enum,
      s_nil, s_cons, s_expr, s_ret, s_retN, s_asg, s_par, s_aug, s_if, s_raise, s_try, s_pass, s_brk, s_cont, h_nil, h_cons, tru_bl, b_add, b_sub, b_addI, b_mulI, b_mod, b_fdiv, a_addI, a_subI, c_eq, c_ne, c_lt, c_le, c_gt, c_ge, c_in, c_nin, c_isN, c_isnotN, eq_int, bindN, bindTp, setA0, setA1, omap, Option.map_some, Option.map_none, add_sv, aug_sv, len_sv, sub_sv, cut_sv, find_sv, find3_sv, index_sv, in_sv, r_index, r_rjust, r_find, r_find3, r_join, if_true, bx, nx, nxc, tx, ny_next, ny_cont, ny_brk, ny_ret, ny_exc, len_app, len_lst, len_tup, tuple_lst, r_app, append_app, add_tup, add_lst, sub_tup, sub_lst, slice_tup, slice_lst, at_0, at_1, at_2, at_3, at_m1, rg1_ok, rg2_ok, Int.toNat_natCast, int_int, abs_int, min_int, max_int, slice_scr, decide_eq_false c1, Bool.not_false]
    exact exit_ret0 rfl
end
end Lv
end
section
set_option Elab.async false
set_option linter.all false
set_option maxRecDepth 100000
set_option maxHeartbeats 4000000
/-! resumetrue.leaves: rows read, words. -/
namespace Lv
open PySem Fx
open SX (S)
open L2 (atI)
/-- the rows of the rest t, which stands at at_ -/
def rowsP : Nat → Nat → Nat → Nat → List Nat → List (List Nat × Nat × Nat)
  | 0, _, _, _, _ => []
  | m + 1, a, n, at_, t => match fnd 10 t with
    | none => []
    | some j => match rowP a n (t.take j) with
      | none => []
      | some (w, o) => (w, o, at_ + j + 1) :: rowsP m o (n + 1) (at_ + j + 1) (t.drop (j + 1))
theorem rowsP_succ (m a n at_ : Nat) (t : List Nat) : rowsP (m + 1) a n at_ t = (match fnd 10 t with
    | none => []
    | some j => match rowP a n (t.take j) with
      | none => []
      | some (w, o) => (w, o, at_ + j + 1) :: rowsP m o (n + 1) (at_ + j + 1) (t.drop (j + 1))) := rfl
theorem rowsP_len : ∀ (m a n at_ : Nat) (t : List Nat), (rowsP m a n at_ t).length ≤ m
  | 0, a, n, at_, t => Nat.le_refl _
  | m + 1, a, n, at_, t => by
    rw [rowsP_succ]
    cases fnd 10 t with
    | none => exact Nat.zero_le _
    | some j =>
      simp only
      cases rowP a n (t.take j) with
      | none => exact Nat.zero_le _
      | some p => exact Nat.succ_le_succ (rowsP_len m _ _ _ _)
def rowV3 (r : List Nat × Nat × Nat) : PV := .tup [sv r.1, .int (r.2.1 : Nat), .int (r.2.2 : Nat)]
def wordsP (T : List Nat) : List (List Nat) × Nat := ((rowsP 100000 0 1 0 T).map (·.1), match (rowsP 100000 0 1 0 T).getLast? with
  | some r => r.2.2
  | none => 0)
def endV (T : List Nat) (at_ : Nat) : Int := posI ((fnd 10 (T.drop at_)).map (at_ + ·))
theorem fnd_lt {c : Nat} : ∀ {l : List Nat} {j : Nat}, fnd c l = some j → j < l.length
  | [], j, h => by cases h
  | x :: r, j, h => by
    unfold fnd at h
    split at h
    · cases h; simp
    · obtain ⟨i, e, rfl⟩ := Option.map_eq_some_iff.mp h
      have := fnd_lt e
      simp; omega
theorem rows_pure (l : List (List Nat × Nat × Nat)) : PV.pures (l.map rowV3) = true := by
  induction l with
  | nil => rfl
  | cons a r ih => exact ih
section
variable {cfg : Cfg} (H : HasLeaves cfg)
include H
theorem rows_of (k : Nat) (T : List Nat) (hT : T.length ≤ 90000) (oT : okL T = true) (hf : cfg.fuel = 100000) (h : PHeap) : run cfg (k + 3) 1106 [sv T] h = .ok (.lst ((rowsP 100000 0 1 0 T).map rowV3)) h := by
  rw [run_succ H.f6 (k + 2) _ _ rfl]
  have pR := rows_pure (rowsP 100000 0 1 0 T)
  generalize hR : (rowsP 100000 0 1 0 T).map rowV3 = R at pR ⊢
  obtain ⟨x2, g2⟩ := H.g2
  have ln := line24
  have e0 : posI (fnd 10 T) = endV T 0 := by
    unfold endV
    rw [List.drop_zero]
    cases fnd 10 T with
    | none => rfl
    | some j => simp
  unfold M_leaves.f_rows_of
  simp (disch := first | assumption | omega | (simp only [List.length_append, List.length_cons, List.length_nil, List.length_take, List.length_drop, List.length_replicate, List.length_map]; omega)) only [startP, List.map_cons, List.map_nil, List.length_cons, List.length_nil, List.replicate_succ, List.replicate_zero, List.cons_append, List.nil_append, Nat.add_zero, Nat.zero_add, Nat.reduceAdd, Nat.reduceSub, Nat.reduceLT, Nat.reduceLeDiff, List.getElem?_cons_succ, List.getElem?_cons_zero, List.set_cons_succ, List.set_cons_zero, bind_ok, bind_exc, calm_ok, lift_some,
      x_var, x_int, x_lit, x_bl, x_non, x_bin, x_neg, x_cmp, x_chain, x_bool, x_not, x_ite, x_call, x_bcall, x_isi, x_meth, x_tup, x_listT, x_listF, x_sub, x_slice, x_nil, x_cons, x_onone, x_osome, x_tnil, x_tcons, x_b1, x_and, x_or, x_seq, x_range1, x_range2, x_enum,
      s_nil, s_cons, s_expr, s_ret, s_retN, s_asg, s_par, s_aug, s_if, s_raise, s_try, s_pass, s_brk, s_cont, h_nil, h_cons, tru_bl, b_add, b_sub, b_addI, b_mulI, b_mod, b_fdiv, a_addI, a_subI, c_eq, c_ne, c_lt, c_le, c_gt, c_ge, c_in, c_nin, c_isN, c_isnotN, eq_int, bindN, bindTp, setA0, setA1, omap, Option.map_some, Option.map_none, add_sv, aug_sv, len_sv, sub_sv, cut_sv, find_sv, find3_sv, index_sv, in_sv, r_index, r_rjust, r_find, r_find3, r_join, if_true, bx, nx, nxc, tx, ny_next, ny_cont, ny_brk, ny_ret, ny_exc, len_app, len_lst, len_tup, tuple_lst, r_app, append_app, add_tup, add_lst, sub_tup, sub_lst, slice_tup, slice_lst, at_0, at_1, at_2, at_3, at_m1, rg1_ok, rg2_ok, Int.toNat_natCast, int_int, abs_int, min_int, max_int, slice_scr, l_nl, s_while, e0]
  generalize hq : whileL _ _ _ _ _ = q
  have key := while_q hq (fun m σ g => ∃ at_ a acc y, σ = [some (sv T), some (.ref h.length), some (.int (at_ : Nat)), some (.int (a : Nat)), some (.int (endV T at_)), y] ∧ g = h ++ [.lst acc] ∧ at_ ≤ T.length ∧ acc.length ≤ at_ ∧ T.length - at_ < m ∧
      acc ++ (rowsP m a (acc.length + 1) at_ (T.drop at_)).map rowV3 = R)
    (fun r => r = .ret (.ref h.length) (h ++ [.lst (R)]) ∨ ∃ at_ a e y, r = .next [some (sv T), some (.ref h.length), some (.int (at_ : Nat)), some (.int (a : Nat)), some (.int e), y] (h ++ [.lst (R)]))
    (by rw [hf]; exact ⟨0, 0, [], none, rfl, rfl, Nat.zero_le _, Nat.le_refl _, by omega, hR⟩) (by rintro σ g ⟨at_, a, acc, y, _, _, _, _, z, _⟩; omega) (by
    rintro m σ g ⟨at_, a, acc, y, rfl, rfl, h1, h2, h3, h4⟩
    have hm : decide (((acc.length : Nat) : Int) < 99999) = true := decide_eq_true (by omega)
    cases ef : fnd 10 (T.drop at_) with
    | none =>
      have ee : endV T at_ = -1 := by unfold endV; rw [ef]; rfl
      rw [rowsP_succ, ef] at h4
      simp only [List.map_nil, List.append_nil] at h4
      rw [ee]
      have : decide ((0 : Int) ≤ -1) = false := by decide
      simp (disch := first | assumption | omega | (simp only [List.length_append, List.length_cons, List.length_nil, List.length_take, List.length_drop, List.length_replicate, List.length_map]; omega)) only [startP, List.map_cons, List.map_nil, List.length_cons, List.length_nil, List.replicate_succ, List.replicate_zero, List.cons_append, List.nil_append, Nat.add_zero, Nat.zero_add, Nat.reduceAdd, Nat.reduceSub, Nat.reduceLT, Nat.reduceLeDiff, List.getElem?_cons_succ, List.getElem?_cons_zero, List.set_cons_succ, List.set_cons_zero, bind_ok, bind_exc, calm_ok, lift_some,
      x_var, x_int, x_lit, x_bl, x_non, x_bin, x_neg, x_cmp, x_chain, x_bool, x_not, x_ite, x_call, x_bcall, x_isi, x_meth, x_tup, x_listT, x_listF, x_sub, x_slice, x_nil, x_cons, x_onone, x_osome, x_tnil, x_tcons, x_b1, x_and, x_or, x_seq, x_range1, x_range2, x_enum,
      s_nil, s_cons, s_expr, s_ret, s_retN, s_asg, s_par, s_aug, s_if, s_raise, s_try, s_pass, s_brk, s_cont, h_nil, h_cons, tru_bl, b_add, b_sub, b_addI, b_mulI, b_mod, b_fdiv, a_addI, a_subI, c_eq, c_ne, c_lt, c_le, c_gt, c_ge, c_in, c_nin, c_isN, c_isnotN, eq_int, bindN, bindTp, setA0, setA1, omap, Option.map_some, Option.map_none, add_sv, aug_sv, len_sv, sub_sv, cut_sv, find_sv, find3_sv, index_sv, in_sv, r_index, r_rjust, r_find, r_find3, r_join, if_true, bx, nx, nxc, tx, ny_next, ny_cont, ny_brk, ny_ret, ny_exc, len_app, len_lst, len_tup, tuple_lst, r_app, append_app, add_tup, add_lst, sub_tup, sub_lst, slice_tup, slice_lst, at_0, at_1, at_2, at_3, at_m1, rg1_ok, rg2_ok, Int.toNat_natCast, int_int, abs_int, min_int, max_int, slice_scr, this]
      refine ⟨fun z => (nomatch z), fun _ => .inr ⟨at_, a, -1, y, ?_⟩⟩
      rw [h4]
    | some j =>
      have ee : endV T at_ = ((at_ + j : Nat) : Int) := by unfold endV; rw [ef]; rfl
      have hj := fnd_lt ef
      rw [List.length_drop] at hj
      have h0 : decide ((0 : Int) ≤ ((at_ + j : Nat) : Int)) = true := decide_eq_true (by omega)
      rw [ee]
      rw [rowsP_succ, ef] at h4
      simp only at h4
      have e6 : (((acc.length : Nat) : Int) + 1) = ((acc.length + 1 : Nat) : Int) := by omega
      have ec : (T.take (at_ + j)).drop at_ = (T.drop at_).take j := by rw [List.drop_take, Nat.add_sub_cancel_left]
      have rw1 := row H k a (acc.length + 1) ((T.drop at_).take j) (by omega) (by simp only [List.length_take, List.length_drop]; omega) (okL_take _ (okL_drop _ oT)) (h ++ [.lst acc])
      cases er : rowP a (acc.length + 1) ((T.drop at_).take j) with
      | none =>
        rw [er] at h4 rw1
        simp only [List.map_nil, List.append_nil] at h4
        simp (disch := first | assumption | omega | (simp only [List.length_append, List.length_cons, List.length_nil, List.length_take, List.length_drop, List.length_replicate, List.length_map]; omega)) only [startP, List.map_cons, List.map_nil, List.length_cons, List.length_nil, List.replicate_succ, List.replicate_zero, List.cons_append, List.nil_append, Nat.add_zero, Nat.zero_add, Nat.reduceAdd, Nat.reduceSub, Nat.reduceLT, Nat.reduceLeDiff, List.getElem?_cons_succ, List.getElem?_cons_zero, List.set_cons_succ, List.set_cons_zero, bind_ok, bind_exc, calm_ok, lift_some,
      x_var, x_int, x_lit, x_bl, x_non, x_bin, x_neg, x_cmp, x_chain, x_bool, x_not, x_ite, x_call, x_bcall, x_isi, x_meth, x_tup, x_listT, x_listF, x_sub, x_slice, x_nil, x_cons, x_onone, x_osome, x_tnil, x_tcons, x_b1, x_and, x_or, x_seq, x_range1, x_range2, x_enum,
      s_nil, s_cons, s_expr, s_ret, s_retN, s_asg, s_par, s_aug, s_if, s_raise, s_try, s_pass, s_brk, s_cont, h_nil, h_cons, tru_bl, b_add, b_sub, b_addI, b_mulI, b_mod, b_fdiv, a_addI, a_subI, c_eq, c_ne, c_lt, c_le, c_gt, c_ge, c_in, c_nin, c_isN, c_isnotN, eq_int, bindN, bindTp, setA0, setA1, omap, Option.map_some, Option.map_none, add_sv, aug_sv, len_sv, sub_sv, cut_sv, find_sv, find3_sv, index_sv, in_sv, r_index, r_rjust, r_find, r_find3, r_join, if_true, bx, nx, nxc, tx, ny_next, ny_cont, ny_brk, ny_ret, ny_exc, len_app, len_lst, len_tup, tuple_lst, r_app, append_app, add_tup, add_lst, sub_tup, sub_lst, slice_tup, slice_lst, at_0, at_1, at_2, at_3, at_m1, rg1_ok, rg2_ok, Int.toNat_natCast, int_int, abs_int, min_int, max_int, slice_scr, h0, x_glob g2, hm, e6, cut_mid, ec, rw1, rowV]
        refine ⟨fun _ => .inl ?_, fun z => (nomatch z)⟩
        rw [h4]
      | some p =>
        obtain ⟨w, o⟩ := p
        rw [er] at h4 rw1
        have e7 : (((at_ + j : Nat) : Int) + 1) = ((at_ + j + 1 : Nat) : Int) := by omega
        have f3 : ∀ g, bmV .find3 g (sv T) [sv [10], .int ((at_ + j + 1 : Nat) : Int)] = .ok (.int (endV T (at_ + j + 1))) g := fun g => by
          rw [find3_sv g T 10 (at_ + j + 1) (by omega)]
          rfl
        simp (disch := first | assumption | omega | (simp only [List.length_append, List.length_cons, List.length_nil, List.length_take, List.length_drop, List.length_replicate, List.length_map]; omega)) only [startP, List.map_cons, List.map_nil, List.length_cons, List.length_nil, List.replicate_succ, List.replicate_zero, List.cons_append, List.nil_append, Nat.add_zero, Nat.zero_add, Nat.reduceAdd, Nat.reduceSub, Nat.reduceLT, Nat.reduceLeDiff, List.getElem?_cons_succ, List.getElem?_cons_zero, List.set_cons_succ, List.set_cons_zero, bind_ok, bind_exc, calm_ok, lift_some,
      x_var, x_int, x_lit, x_bl, x_non, x_bin, x_neg, x_cmp, x_chain, x_bool, x_not, x_ite, x_call, x_bcall, x_isi, x_meth, x_tup, x_listT, x_listF, x_sub, x_slice, x_nil, x_cons, x_onone, x_osome, x_tnil, x_tcons, x_b1, x_and, x_or, x_seq, x_range1, x_range2, x_enum,
      s_nil, s_cons, s_expr, s_ret, s_retN, s_asg, s_par, s_aug, s_if, s_raise, s_try, s_pass, s_brk, s_cont, h_nil, h_cons, tru_bl, b_add, b_sub, b_addI, b_mulI, b_mod, b_fdiv, a_addI, a_subI, c_eq, c_ne, c_lt, c_le, c_gt, c_ge, c_in, c_nin, c_isN, c_isnotN, eq_int, bindN, bindTp, setA0, setA1, omap, Option.map_some, Option.map_none, add_sv, aug_sv, len_sv, sub_sv, cut_sv, find_sv, find3_sv, index_sv, in_sv, r_index, r_rjust, r_find, r_find3, r_join, if_true, bx, nx, nxc, tx, ny_next, ny_cont, ny_brk, ny_ret, ny_exc, len_app, len_lst, len_tup, tuple_lst, r_app, append_app, add_tup, add_lst, sub_tup, sub_lst, slice_tup, slice_lst, at_0, at_1, at_2, at_3, at_m1, rg1_ok, rg2_ok, Int.toNat_natCast, int_int, abs_int, min_int, max_int, slice_scr, h0, x_glob g2, hm, e6, cut_mid, ec, rw1, rowV, e7, l_nl, f3]
        refine ⟨fun _ => ⟨at_ + j + 1, o, acc ++ [rowV3 (w, o, at_ + j + 1)], _, rfl, rfl, by omega, by simp; omega, by omega, ?_⟩, fun z => (nomatch z)⟩
        rw [← h4, List.drop_drop]
        simp [Nat.add_assoc])
  rcases key with rfl | ⟨at_, a, e, y, rfl⟩
  · simp (disch := first | assumption | omega | (simp only [List.length_append, List.length_cons, List.length_nil, List.length_take, List.length_drop, List.length_replicate, List.length_map]; omega)) only [startP, List.map_cons, List.map_nil, List.length_cons, List.length_nil, List.replicate_succ, List.replicate_zero, List.cons_append, List.nil_append, Nat.add_zero, Nat.zero_add, Nat.reduceAdd, Nat.reduceSub, Nat.reduceLT, Nat.reduceLeDiff, List.getElem?_cons_succ, List.getElem?_cons_zero, List.set_cons_succ, List.set_cons_zero, bind_ok, bind_exc, calm_ok, lift_some,
      x_var, x_int, x_lit, x_bl, x_non, x_bin, x_neg, x_cmp, x_chain, x_bool, x_not, x_ite, x_call, x_bcall, x_isi, x_meth, x_tup, x_listT, x_listF, x_sub, x_slice, x_nil, x_cons, x_onone, x_osome, x_tnil, x_tcons, x_b1, x_and, x_or, x_seq, x_range1, x_range2, x_enum,
      s_nil, s_cons, s_expr, s_ret, s_retN, s_asg, s_par, s_aug, s_if, s_raise, s_try, s_pass, s_brk, s_cont, h_nil, h_cons, tru_bl, b_add, b_sub, b_addI, b_mulI, b_mod, b_fdiv, a_addI, a_subI, c_eq, c_ne, c_lt, c_le, c_gt, c_ge, c_in, c_nin, c_isN, c_isnotN, eq_int, bindN, bindTp, setA0, setA1, omap, Option.map_some, Option.map_none, add_sv, aug_sv, len_sv, sub_sv, cut_sv, find_sv, find3_sv, index_sv, in_sv, r_index, r_rjust, r_find, r_find3, r_join, if_true, bx, nx, nxc, tx, ny_next, ny_cont, ny_brk, ny_ret, ny_exc, len_app, len_lst, len_tup, tuple_lst, r_app, append_app, add_tup, add_lst, sub_tup, sub_lst, slice_tup, slice_lst, at_0, at_1, at_2, at_3, at_m1, rg1_ok, rg2_ok, Int.toNat_natCast, int_int, abs_int, min_int, max_int, slice_scr]
    exact exit_list pR
  · simp (disch := first | assumption | omega | (simp only [List.length_append, List.length_cons, List.length_nil, List.length_take, List.length_drop, List.length_replicate, List.length_map]; omega)) only [startP, List.map_cons, List.map_nil, List.length_cons, List.length_nil, List.replicate_succ, List.replicate_zero, List.cons_append, List.nil_append, Nat.add_zero, Nat.zero_add, Nat.reduceAdd, Nat.reduceSub, Nat.reduceLT, Nat.reduceLeDiff, List.getElem?_cons_succ, List.getElem?_cons_zero, List.set_cons_succ, List.set_cons_zero, bind_ok, bind_exc, calm_ok, lift_some,
      x_var, x_int, x_lit, x_bl, x_non, x_bin, x_neg, x_cmp, x_chain, x_bool, x_not, x_ite, x_call, x_bcall, x_isi, x_meth, x_tup, x_listT, x_listF, x_sub, x_slice, x_nil, x_cons, x_onone, x_osome, x_tnil, x_tcons, x_b1, x_and, x_or, x_seq, x_range1, x_range2, x_enum,
      s_nil, s_cons, s_expr, s_ret, s_retN, s_asg, s_par, s_aug, s_if, s_raise, s_try, s_pass, s_brk, s_cont, h_nil, h_cons, tru_bl, b_add, b_sub, b_addI, b_mulI, b_mod, b_fdiv, a_addI, a_subI, c_eq, c_ne, c_lt, c_le, c_gt, c_ge, c_in, c_nin, c_isN, c_isnotN, eq_int, bindN, bindTp, setA0, setA1, omap, Option.map_some, Option.map_none, add_sv, aug_sv, len_sv, sub_sv, cut_sv, find_sv, find3_sv, index_sv, in_sv, r_index, r_rjust, r_find, r_find3, r_join, if_true, bx, nx, nxc, tx, ny_next, ny_cont, ny_brk, ny_ret, ny_exc, len_app, len_lst, len_tup, tuple_lst, r_app, append_app, add_tup, add_lst, sub_tup, sub_lst, slice_tup, slice_lst, at_0, at_1, at_2, at_3, at_m1, rg1_ok, rg2_ok, Int.toNat_natCast, int_int, abs_int, min_int, max_int, slice_scr]
    exact exit_list pR
theorem words_in (k : Nat) (T : List Nat) (hT : T.length ≤ 90000) (oT : okL T = true) (hf : cfg.fuel = 100000) (h : PHeap) :
    run cfg (k + 4) 1108 [sv T] h = .ok (.tup [.tup ((wordsP T).1.map sv), .int ((wordsP T).2 : Nat)]) h := by
  rw [run_succ H.f8 (k + 3) _ _ rfl]
  have ck := check_text H (k + 2) (sv T) true rfl h
  have ro := rows_of H k T hT oT hf h
  rw [if_pos rfl] at ck
  unfold M_leaves.f_words_in wordsP
  have hl : (rowsP 100000 0 1 0 T).length ≤ 100000 := rowsP_len _ _ _ _ _
  generalize hR : rowsP 100000 0 1 0 T = R at ro hl
  have c := ev_comp (cfg := cfg) (call := run cfg (k + 3)) (elt := .sub (.var 2) (.int 0)) (tg := .name 2) (it := .seq (.var 1)) (own := [(Str.ofString "row", 2)]) (σ := [some (sv T), some (.lst (R.map rowV3)), none]) (h := h) (items := R.map rowV3) (w := none)
    (fun v => match v with
      | .tup (x :: _) => x
      | v => v) (by simp (disch := first | assumption | omega | (simp only [List.length_append, List.length_cons, List.length_nil, List.length_take, List.length_drop, List.length_replicate, List.length_map]; omega)) only [startP, List.map_cons, List.map_nil, List.length_cons, List.length_nil, List.replicate_succ, List.replicate_zero, List.cons_append, List.nil_append, Nat.add_zero, Nat.zero_add, Nat.reduceAdd, Nat.reduceSub, Nat.reduceLT, Nat.reduceLeDiff, List.getElem?_cons_succ, List.getElem?_cons_zero, List.set_cons_succ, List.set_cons_zero, bind_ok, bind_exc, calm_ok, lift_some,
      x_var, x_int, x_lit, x_bl, x_non, x_bin, x_neg, x_cmp, x_chain, x_bool, x_not, x_ite, x_call, x_bcall, x_isi, x_meth, x_tup, x_listT, x_listF, x_sub, x_slice, x_nil, x_cons, x_onone, x_osome, x_tnil, x_tcons, x_b1, x_and, x_or, x_seq, x_range1, x_range2, x_enum,
      s_nil, s_cons, s_expr, s_ret, s_retN, s_asg, s_par, s_aug, s_if, s_raise, s_try, s_pass, s_brk, s_cont, h_nil, h_cons, tru_bl, b_add, b_sub, b_addI, b_mulI, b_mod, b_fdiv, a_addI, a_subI, c_eq, c_ne, c_lt, c_le, c_gt, c_ge, c_in, c_nin, c_isN, c_isnotN, eq_int, bindN, bindTp, setA0, setA1, omap, Option.map_some, Option.map_none, add_sv, aug_sv, len_sv, sub_sv, cut_sv, find_sv, find3_sv, index_sv, in_sv, r_index, r_rjust, r_find, r_find3, r_join, if_true, bx, nx, nxc, tx, ny_next, ny_cont, ny_brk, ny_ret, ny_exc, len_app, len_lst, len_tup, tuple_lst, r_app, append_app, add_tup, add_lst, sub_tup, sub_lst, slice_tup, slice_lst, at_0, at_1, at_2, at_3, at_m1, rg1_ok, rg2_ok, Int.toNat_natCast, int_int, abs_int, min_int, max_int, slice_scr, seqL]) (fun _ => rfl) (by
      intro x hx acc
      obtain ⟨r, hr, rfl⟩ := List.mem_map.mp hx
      refine ⟨_, rfl, ?_⟩
      simp (disch := first | assumption | omega | (simp only [List.length_append, List.length_cons, List.length_nil, List.length_take, List.length_drop, List.length_replicate, List.length_map]; omega)) only [startP, List.map_cons, List.map_nil, List.length_cons, List.length_nil, List.replicate_succ, List.replicate_zero, List.cons_append, List.nil_append, Nat.add_zero, Nat.zero_add, Nat.reduceAdd, Nat.reduceSub, Nat.reduceLT, Nat.reduceLeDiff, List.getElem?_cons_succ, List.getElem?_cons_zero, List.set_cons_succ, List.set_cons_zero, bind_ok, bind_exc, calm_ok, lift_some,
      x_var, x_int, x_lit, x_bl, x_non, x_bin, x_neg, x_cmp, x_chain, x_bool, x_not, x_ite, x_call, x_bcall, x_isi, x_meth, x_tup, x_listT, x_listF, x_sub, x_slice, x_nil, x_cons, x_onone, x_osome, x_tnil, x_tcons, x_b1, x_and, x_or, x_seq, x_range1, x_range2, x_enum,
      s_nil, s_cons, s_expr, s_ret, s_retN, s_asg, s_par, s_aug, s_if, s_raise, s_try, s_pass, s_brk, s_cont, h_nil, h_cons, tru_bl, b_add, b_sub, b_addI, b_mulI, b_mod, b_fdiv, a_addI, a_subI, c_eq, c_ne, c_lt, c_le, c_gt, c_ge, c_in, c_nin, c_isN, c_isnotN, eq_int, bindN, bindTp, setA0, setA1, omap, Option.map_some, Option.map_none, add_sv, aug_sv, len_sv, sub_sv, cut_sv, find_sv, find3_sv, index_sv, in_sv, r_index, r_rjust, r_find, r_find3, r_join, if_true, bx, nx, nxc, tx, ny_next, ny_cont, ny_brk, ny_ret, ny_exc, len_app, len_lst, len_tup, tuple_lst, r_app, append_app, add_tup, add_lst, sub_tup, sub_lst, slice_tup, slice_lst, at_0, at_1, at_2, at_3, at_m1, rg1_ok, rg2_ok, Int.toNat_natCast, int_int, abs_int, min_int, max_int, slice_scr, wipeP, rowV3]) (by rw [line24, List.length_map]; omega) (by
      intro x hx
      obtain ⟨r, hr, rfl⟩ := List.mem_map.mp hx
      rfl)
  have em : (R.map rowV3).map (fun v => match v with
      | PV.tup (x :: _) => x
      | v => v) = (R.map (·.1)).map sv := by
    rw [List.map_map, List.map_map]
    rfl
  rw [em] at c
  simp (disch := first | assumption | omega | (simp only [List.length_append, List.length_cons, List.length_nil, List.length_take, List.length_drop, List.length_replicate, List.length_map]; omega)) only [startP, List.map_cons, List.map_nil, List.length_cons, List.length_nil, List.replicate_succ, List.replicate_zero, List.cons_append, List.nil_append, Nat.add_zero, Nat.zero_add, Nat.reduceAdd, Nat.reduceSub, Nat.reduceLT, Nat.reduceLeDiff, List.getElem?_cons_succ, List.getElem?_cons_zero, List.set_cons_succ, List.set_cons_zero, bind_ok, bind_exc, calm_ok, lift_some,
      x_var, x_int, x_lit, x_bl, x_non, x_bin, x_neg, x_cmp, x_chain, x_bool, x_not, x_ite, x_call, x_bcall, x_isi, x_meth, x_tup, x_listT, x_listF, x_sub, x_slice, x_nil, x_cons, x_onone, x_osome, x_tnil, x_tcons, x_b1, x_and, x_or, x_seq, x_range1, x_range2, x_enum,
      s_nil, s_cons, s_expr, s_ret, s_retN, s_asg, s_par, s_aug, s_if, s_raise, s_try, s_pass, s_brk, s_cont, h_nil, h_cons, tru_bl, b_add, b_sub, b_addI, b_mulI, b_mod, b_fdiv, a_addI, a_subI, c_eq, c_ne, c_lt, c_le, c_gt, c_ge, c_in, c_nin, c_isN, c_isnotN, eq_int, bindN, bindTp, setA0, setA1, omap, Option.map_some, Option.map_none, add_sv, aug_sv, len_sv, sub_sv, cut_sv, find_sv, find3_sv, index_sv, in_sv, r_index, r_rjust, r_find, r_find3, r_join, if_true, bx, nx, nxc, tx, ny_next, ny_cont, ny_brk, ny_ret, ny_exc, len_app, len_lst, len_tup, tuple_lst, r_app, append_app, add_tup, add_lst, sub_tup, sub_lst, slice_tup, slice_lst, at_0, at_1, at_2, at_3, at_m1, rg1_ok, rg2_ok, Int.toNat_natCast, int_int, abs_int, min_int, max_int, slice_scr, ck, ro, c]
  cases R with
  | nil =>
    have : decide ((0 : Int) < (([] : List (List Nat × Nat × Nat)).map rowV3).length) = false := by decide
    simp (disch := first | assumption | omega | (simp only [List.length_append, List.length_cons, List.length_nil, List.length_take, List.length_drop, List.length_replicate, List.length_map]; omega)) only [startP, List.map_cons, List.map_nil, List.length_cons, List.length_nil, List.replicate_succ, List.replicate_zero, List.cons_append, List.nil_append, Nat.add_zero, Nat.zero_add, Nat.reduceAdd, Nat.reduceSub, Nat.reduceLT, Nat.reduceLeDiff, List.getElem?_cons_succ, List.getElem?_cons_zero, List.set_cons_succ, List.set_cons_zero, bind_ok, bind_exc, calm_ok, lift_some,
      x_var, x_int, x_lit, x_bl, x_non, x_bin, x_neg, x_cmp, x_chain, x_bool, x_not, x_ite, x_call, x_bcall, x_isi, x_meth, x_tup, x_listT, x_listF, x_sub, x_slice, x_nil, x_cons, x_onone, x_osome, x_tnil, x_tcons, x_b1, x_and, x_or, x_seq, x_range1, x_range2, x_enum,
      s_nil, s_cons, s_expr, s_ret, s_retN, s_asg, s_par, s_aug, s_if, s_raise, s_try, s_pass, s_brk, s_cont, h_nil, h_cons, tru_bl, b_add, b_sub, b_addI, b_mulI, b_mod, b_fdiv, a_addI, a_subI, c_eq, c_ne, c_lt, c_le, c_gt, c_ge, c_in, c_nin, c_isN, c_isnotN, eq_int, bindN, bindTp, setA0, setA1, omap, Option.map_some, Option.map_none, add_sv, aug_sv, len_sv, sub_sv, cut_sv, find_sv, find3_sv, index_sv, in_sv, r_index, r_rjust, r_find, r_find3, r_join, if_true, bx, nx, nxc, tx, ny_next, ny_cont, ny_brk, ny_ret, ny_exc, len_app, len_lst, len_tup, tuple_lst, r_app, append_app, add_tup, add_lst, sub_tup, sub_lst, slice_tup, slice_lst, at_0, at_1, at_2, at_3, at_m1, rg1_ok, rg2_ok, Int.toNat_natCast, int_int, abs_int, min_int, max_int, slice_scr, this]
    exact exit_ret0 rfl
  | cons r0 r =>
    have : decide ((0 : Int) < (((r0 :: r).map rowV3).length : Nat)) = true := decide_eq_true (by rw [List.length_map]; simp only [List.length_cons]; omega)
    obtain ⟨x, ex⟩ : ∃ x, (r0 :: r).getLast? = some x := ⟨_, List.getLast?_eq_some_getLast (by simp)⟩
    have eg : (rowV3 r0 :: r.map rowV3).getLast? = some (rowV3 x) := by
      rw [← List.map_cons, List.getLast?_map, ex]; rfl
    rw [this]
    have s2 : ∀ g, subsV g (rowV3 x) (.int 2) = some (.int (x.2.2 : Nat)) := fun g => rfl
    have e3 : (PV.pure (PV.tup [PV.tup (sv r0.1 :: (r.map (·.1)).map sv), PV.int (x.2.2 : Nat)])) = true := by
      have : ∀ l : List (List Nat), PV.pures (l.map sv) = true := by
        intro l
        induction l with
        | nil => rfl
        | cons a r ih => exact ih
      show (PV.pures (sv r0.1 :: (r.map (·.1)).map sv) && true) = true
      rw [Bool.and_true]
      exact this _
    simp (disch := first | assumption | omega | (simp only [List.length_append, List.length_cons, List.length_nil, List.length_take, List.length_drop, List.length_replicate, List.length_map]; omega)) only [startP, List.map_cons, List.map_nil, List.length_cons, List.length_nil, List.replicate_succ, List.replicate_zero, List.cons_append, List.nil_append, Nat.add_zero, Nat.zero_add, Nat.reduceAdd, Nat.reduceSub, Nat.reduceLT, Nat.reduceLeDiff, List.getElem?_cons_succ, List.getElem?_cons_zero, List.set_cons_succ, List.set_cons_zero, bind_ok, bind_exc, calm_ok, lift_some,
      x_var, x_int, x_lit, x_bl, x_non, x_bin, x_neg, x_cmp, x_chain, x_bool, x_not, x_ite, x_call, x_bcall, x_isi, x_meth, x_tup, x_listT, x_listF, x_sub, x_slice, x_nil, x_cons, x_onone, x_osome, x_tnil, x_tcons, x_b1, x_and, x_or, x_seq, x_range1, x_range2, x_enum,
      s_nil, s_cons, s_expr, s_ret, s_retN, s_asg, s_par, s_aug, s_if, s_raise, s_try, s_pass, s_brk, s_cont, h_nil, h_cons, tru_bl, b_add, b_sub, b_addI, b_mulI, b_mod, b_fdiv, a_addI, a_subI, c_eq, c_ne, c_lt, c_le, c_gt, c_ge, c_in, c_nin, c_isN, c_isnotN, eq_int, bindN, bindTp, setA0, setA1, omap, Option.map_some, Option.map_none, add_sv, aug_sv, len_sv, sub_sv, cut_sv, find_sv, find3_sv, index_sv, in_sv, r_index, r_rjust, r_find, r_find3, r_join, if_true, bx, nx, nxc, tx, ny_next, ny_cont, ny_brk, ny_ret, ny_exc, len_app, len_lst, len_tup, tuple_lst, r_app, append_app, add_tup, add_lst, sub_tup, sub_lst, slice_tup, slice_lst, at_0, at_1, at_2, at_3, at_m1, rg1_ok, rg2_ok, Int.toNat_natCast, int_int, abs_int, min_int, max_int, slice_scr, eg, ex, s2]
    exact exit_ret0 e3
end
end Lv
end
section
set_option Elab.async false
set_option linter.all false
set_option maxRecDepth 100000
set_option maxHeartbeats 4000000
/-! leaves: the plain law. -/
namespace Lv
open PySem Fx
theorem num_last (n : Nat) : ∃ u, TL.numL n = u ++ [48 + n % 10] ∧ (10 ≤ n → u = TL.numL (n / 10)) ∧ (n < 10 → u = []) := by
  by_cases h : n < 10
  · exact ⟨[], by rw [TL.numL_lt h, Nat.mod_eq_of_lt h]; rfl, fun _ => by omega, fun _ => rfl⟩
  · exact ⟨TL.numL (n / 10), TL.numL_step (by omega), fun _ => rfl, fun _ => by omega⟩
theorem pad5_eq {n : Nat} (h : n < 100000) : pad5 n = [48 + n / 10000 % 10, 48 + n / 1000 % 10, 48 + n / 100 % 10, 48 + n / 10 % 10, 48 + n % 10] := by
  unfold pad5
  by_cases h1 : n < 10
  · rw [TL.numL_lt h1]
    have e1 : n / 10000 % 10 = 0 := by omega
    have e2 : n / 1000 % 10 = 0 := by omega
    have e3 : n / 100 % 10 = 0 := by omega
    have e4 : n / 10 % 10 = 0 := by omega
    have e5 : n % 10 = n := by omega
    rw [e1, e2, e3, e4, e5]; rfl
  · rw [TL.numL_step (by omega : 10 ≤ n)]
    by_cases h2 : n / 10 < 10
    · rw [TL.numL_lt h2]
      have e1 : n / 10000 % 10 = 0 := by omega
      have e2 : n / 1000 % 10 = 0 := by omega
      have e3 : n / 100 % 10 = 0 := by omega
      have e4 : n / 10 % 10 = n / 10 := by omega
      rw [e1, e2, e3, e4]; rfl
    · rw [TL.numL_step (by omega : 10 ≤ n / 10)]
      by_cases h3 : n / 10 / 10 < 10
      · rw [TL.numL_lt h3]
        have e1 : n / 10000 % 10 = 0 := by omega
        have e2 : n / 1000 % 10 = 0 := by omega
        have e3 : n / 100 % 10 = n / 10 / 10 := by omega
        rw [e1, e2, e3]; rfl
      · rw [TL.numL_step (by omega : 10 ≤ n / 10 / 10)]
        by_cases h4 : n / 10 / 10 / 10 < 10
        · rw [TL.numL_lt h4]
          have e1 : n / 10000 % 10 = 0 := by omega
          have e2 : n / 1000 % 10 = n / 10 / 10 / 10 := by omega
          have e3 : n / 100 % 10 = n / 10 / 10 % 10 := by omega
          rw [e1, e2, e3]; rfl
        · rw [TL.numL_step (by omega : 10 ≤ n / 10 / 10 / 10), TL.numL_lt (by omega : n / 10 / 10 / 10 / 10 < 10)]
          have e1 : n / 10000 % 10 = n / 10 / 10 / 10 / 10 := by omega
          have e2 : n / 1000 % 10 = n / 10 / 10 / 10 % 10 := by omega
          have e3 : n / 100 % 10 = n / 10 / 10 % 10 := by omega
          rw [e1, e2, e3]; rfl
theorem pad5_len {n : Nat} (h : n < 100000) : (pad5 n).length = 5 := by rw [pad5_eq h]; rfl
theorem fnd_app {c : Nat} : ∀ {u : List Nat} (t : List Nat), c ∉ u → fnd c (u ++ c :: t) = some u.length
  | [], t, h => by show fnd c (c :: t) = _; unfold fnd; rw [if_pos rfl]; rfl
  | x :: r, t, h => by
    show fnd c (x :: (r ++ c :: t)) = _
    unfold fnd
    rw [if_neg fun e => h (by rw [e]; exact List.mem_cons_self ..), fnd_app t fun m => h (List.mem_cons_of_mem _ m)]
    rfl
theorem arew_iff {w : List Nat} : arew w = true ↔ 1 ≤ w.length ∧ w.length ≤ 20000 ∧ ∀ c ∈ w, c ∈ SG := by
  unfold arew
  simp only [Bool.and_eq_true, decide_eq_true_eq, List.all_eq_true]
  constructor
  · rintro ⟨⟨a, b⟩, c⟩; exact ⟨a, b, c⟩
  · rintro ⟨a, b, c⟩; exact ⟨⟨a, b⟩, c⟩
theorem own_lt (a n : Nat) (w : List Nat) : own a n w < 100000 := by have := sum_lt a (headBy n w); unfold own; omega
def bodyBy (a n : Nat) (w : List Nat) : List Nat := headBy n w ++ [35] ++ pad5 (own a n w)
theorem leaf_body (a n : Nat) (w : List Nat) : leafBy a n w = bodyBy a n w ++ [10] := rfl
theorem SG_35 : 35 ∉ SG := by decide
theorem SG_10 : 10 ∉ SG := by decide
theorem dig5 {n c : Nat} (h : n < 100000) (m : c ∈ pad5 n) : 48 ≤ c ∧ c ≤ 57 := by
  rw [pad5_eq h] at m
  simp only [List.mem_cons, List.not_mem_nil, or_false] at m
  omega
theorem body_10 {a n : Nat} {w : List Nat} (hw : ∀ c ∈ w, c ∈ SG) : 10 ∉ bodyBy a n w := by
  intro m
  unfold bodyBy at m
  simp only [List.mem_append, List.mem_singleton] at m
  rcases m with (m | m) | m
  · exact SG_10 (head_SG hw 10 m)
  · omega
  · have := dig5 (own_lt a n w) m; omega
theorem head_beg (n : Nat) (w : List Nat) : headBy n w = begB n ++ w ++ [32] := rfl
theorem rowP_body {a n : Nat} {w : List Nat} (hw : arew w = true) : rowP a n (bodyBy a n w) = some (w, own a n w) := by
  obtain ⟨w1, w2, w3⟩ := arew_iff.mp hw
  have lb : (bodyBy a n w).length = (headBy n w).length + 6 := by
    unfold bodyBy
    simp only [List.length_append, pad5_len (own_lt a n w), List.length_cons, List.length_nil]
  have l1 : (bodyBy a n w).length - 6 = (headBy n w).length := by omega
  have e1 : (bodyBy a n w).take ((bodyBy a n w).length - 6) = headBy n w := by
    rw [l1]; unfold bodyBy
    rw [List.append_assoc, List.take_left]
  have e2 : (bodyBy a n w).drop ((bodyBy a n w).length - 6) = [35] ++ pad5 (own a n w) := by
    rw [l1]; unfold bodyBy
    rw [List.append_assoc, List.drop_left]
  unfold rowP
  simp only [e1, e2]
  have hl : (headBy n w).length = (begB n).length + w.length + 1 := by rw [head_beg]; simp only [List.length_append, List.length_cons, List.length_nil]
  have c2 : (headBy n w).take (begB n).length = begB n := by rw [head_beg, List.append_assoc, List.take_left]
  have c3 : (headBy n w).drop ((headBy n w).length - 1) = [32] := by
    rw [hl, head_beg]
    have : (begB n ++ w).length = (begB n).length + w.length + 1 - 1 := by rw [List.length_append]; omega
    rw [← this, List.drop_left]
  have c4 : ((headBy n w).take ((headBy n w).length - 1)).drop (begB n).length = w := by
    rw [hl, head_beg]
    have : (begB n ++ w).length = (begB n).length + w.length + 1 - 1 := by rw [List.length_append]; omega
    rw [← this, List.take_left, List.drop_left]
  rw [c4, if_neg (fun z => by
    rcases z with z | z | z | z
    · exact z rfl
    · exact z c2
    · exact z c3
    · omega), if_neg (by rw [hw]; decide)]
  have : ([35] ++ pad5 (own a n w)).drop 1 = pad5 (own a n w) := rfl
  rw [this]
  exact if_pos rfl
theorem rows_leaf {m a n at_ : Nat} {w t : List Nat} (hw : arew w = true) : rowsP (m + 1) a n at_ (leafBy a n w ++ t) = (w, own a n w, at_ + (leafBy a n w).length) :: rowsP m (own a n w) (n + 1) (at_ + (leafBy a n w).length) t := by
  have hs := (arew_iff.mp hw).2.2
  rw [rowsP_succ, leaf_body, List.append_assoc]
  show (match fnd 10 (bodyBy a n w ++ 10 :: t) with
    | none => _
    | some j => _) = _
  rw [fnd_app t (body_10 hs)]
  simp only [List.take_left]
  rw [rowP_body hw]
  have e1 : (bodyBy a n w ++ [10] ++ t).drop ((bodyBy a n w).length + 1) = t := by
    have : (bodyBy a n w ++ [10]).length = (bodyBy a n w).length + 1 := by simp
    rw [← this, List.drop_left]
  have e2 : bodyBy a n w ++ ([10] ++ t) = bodyBy a n w ++ [10] ++ t := by simp
  rw [e2, e1]
  simp only [List.length_append, List.length_cons, List.length_nil]
  rfl
def rowsL : Nat → Nat → Nat → List (List Nat) → List (List Nat × Nat × Nat)
  | _, _, _, [] => []
  | a, n, at_, w :: r => (w, own a n w, at_ + (leafBy a n w).length) :: rowsL (own a n w) (n + 1) (at_ + (leafBy a n w).length) r
theorem rows_many : ∀ (us : List (List Nat)) (m a n at_ : Nat) (t : List Nat), (∀ w ∈ us, arew w = true) →
    rowsP (us.length + m) a n at_ ((leafs a n us).flatten ++ t) = rowsL a n at_ us ++ rowsP m (ahd a n us) (n + us.length) (at_ + (leafs a n us).flatten.length) t
  | [], m, a, n, at_, t, _ => by simp [leafs, rowsL, ahd]
  | w :: r, m, a, n, at_, t, h => by
    have e : (w :: r).length + m = (r.length + m) + 1 := by simp only [List.length_cons]; omega
    have ef : (leafs a n (w :: r)).flatten ++ t = leafBy a n w ++ ((leafs (own a n w) (n + 1) r).flatten ++ t) := by simp [leafs]
    rw [e, ef, rows_leaf (h w (List.mem_cons_self ..)), rows_many r m _ _ _ t fun u mu => h u (List.mem_cons_of_mem _ mu)]
    simp only [rowsL, ahd, leafs, List.cons_append, List.length_cons, List.flatten_cons, List.length_append]
    rw [show n + 1 + r.length = n + (r.length + 1) by omega, Nat.add_assoc at_]
theorem rowsL_words : ∀ (us : List (List Nat)) (a n at_ : Nat), (rowsL a n at_ us).map (·.1) = us
  | [], _, _, _ => rfl
  | w :: r, a, n, at_ => by show w :: _ = _; rw [rowsL_words r]
theorem rowsL_last : ∀ (us : List (List Nat)) (a n at_ : Nat), (match (rowsL a n at_ us).getLast? with
    | some r => r.2.2
    | none => at_) = at_ + (leafs a n us).flatten.length
  | [], _, _, _ => rfl
  | [w], a, n, at_ => by simp [rowsL, leafs]
  | w :: v :: r, a, n, at_ => by
    have := rowsL_last (v :: r) (own a n w) (n + 1) (at_ + (leafBy a n w).length)
    have e : (rowsL a n at_ (w :: v :: r)).getLast? = (rowsL (own a n w) (n + 1) (at_ + (leafBy a n w).length) (v :: r)).getLast? := rfl
    rw [e]
    have ef : (leafs a n (w :: v :: r)).flatten.length = (leafBy a n w).length + (leafs (own a n w) (n + 1) (v :: r)).flatten.length := by
      show (leafBy a n w :: leafs (own a n w) (n + 1) (v :: r)).flatten.length = _
      rw [List.flatten_cons, List.length_append]
    rw [ef, ← Nat.add_assoc, ← this]
    rfl
/-- nothing is read at t -/
def Stop (a n : Nat) (t : List Nat) : Prop := fnd 10 t = none ∨ ∃ j, fnd 10 t = some j ∧ rowP a n (t.take j) = none
theorem stop_rows {a n : Nat} {t : List Nat} (s : Stop a n t) (m at_ : Nat) : rowsP m a n at_ t = [] := by
  cases m with
  | zero => rfl
  | succ m =>
    rw [rowsP_succ]
    rcases s with s | ⟨j, s1, s2⟩
    · rw [s]
    · rw [s1]; simp only [s2]
theorem words_stop {us : List (List Nat)} {t : List Nat} (h : ∀ w ∈ us, arew w = true) (hl : us.length ≤ 100000) (s : Stop (ahd 0 1 us) (1 + us.length) t) :
    wordsP ((leafs 0 1 us).flatten ++ t) = (us, (leafs 0 1 us).flatten.length) := by
  have e := rows_many us (100000 - us.length) 0 1 0 t h
  rw [show us.length + (100000 - us.length) = 100000 by omega, stop_rows s, List.append_nil] at e
  unfold wordsP
  rw [e, rowsL_words]
  have := rowsL_last us 0 1 0
  rw [Nat.zero_add] at this
  first
    | (rw [← this]; done)
    | (rw [← this]; rfl)
end Lv
end
section
set_option Elab.async false
set_option linter.all false
set_option maxRecDepth 100000
set_option maxHeartbeats 4000000
/-! leaves: a damaged leaf is not read. -/
namespace Lv
open PySem Fx
/-- a row is read only if: its sixth last sign is #, .. -/
theorem rowP_some {a n : Nat} {l : List Nat} {p : List Nat × Nat} (h : rowP a n l = some p) : ((l.drop (l.length - 6)).take 1 = [35] ∧ (l.take (l.length - 6)).take (begB n).length = begB n ∧ (begB n).length < (l.take (l.length - 6)).length) ∧
    (∀ c ∈ l.take (l.length - 6), c ∈ SG) ∧ (l.drop (l.length - 6)).drop 1 = pad5 (sumBy a (l.take (l.length - 6))) := by
  unfold rowP at h
  simp only at h
  generalize hh : l.take (l.length - 6) = head at h ⊢
  generalize ht : l.drop (l.length - 6) = total at h ⊢
  split at h
  · cases h
  · rename_i c
    split at h
    · cases h
    · rename_i ca
      split at h
      · rename_i c5
        have c1 : total.take 1 = [35] := Classical.byContradiction fun z => c (.inl z)
        have c2 : head.take (begB n).length = begB n := Classical.byContradiction fun z => c (.inr (.inl z))
        have c3 : head.drop (head.length - 1) = [32] := Classical.byContradiction fun z => c (.inr (.inr (.inl z)))
        have c4 : ¬ head.length ≤ (begB n).length := fun z => c (.inr (.inr (.inr z)))
        refine ⟨⟨c1, c2, by omega⟩, ?_, c5⟩
        have ca : arew ((head.take (head.length - 1)).drop (begB n).length) = true := by simpa using ca
        intro x mx
        have e1 : head = (head.take (head.length - 1)).take (begB n).length ++ (head.take (head.length - 1)).drop (begB n).length ++ head.drop (head.length - 1) := by
          rw [List.take_append_drop, List.take_append_drop]
        rw [e1, c3] at mx
        simp only [List.mem_append, List.mem_singleton] at mx
        rcases mx with (m | m) | m
        · have e2 : (head.take (head.length - 1)).take (begB n).length = begB n := by
            rw [List.take_take, Nat.min_eq_left (by omega)]
            exact c2
          rw [e2] at m
          unfold begB at m
          simp only [List.mem_append, List.mem_singleton] at m
          rcases m with m | rfl
          · exact num_SG m
          · exact sp_SG
        · exact (arew_iff.mp ca).2.2 x m
        · rw [m]; exact sp_SG
      · cases h
theorem beg_1 {n : Nat} (h : n < 10) : begB n = [48 + n, 32] := by unfold begB; rw [TL.numL_lt h]; rfl
/-- another number ahead -/
theorem rowP_first {a n c : Nat} {l : List Nat} (hn : n < 10) (hc : l[0]? ≠ some (48 + n)) : rowP a n l = none := by
  cases e : rowP a n l with
  | none => rfl
  | some p =>
    obtain ⟨⟨_, c2, c4⟩, _⟩ := rowP_some e
    rw [beg_1 hn] at c2 c4
    exfalso
    apply hc
    cases l with
    | nil => simp at c4
    | cons x r =>
      cases k : (x :: r).length - 6 with
      | zero => rw [k] at c4; simp at c4
      | succ k' =>
        rw [k, List.take_succ_cons] at c2
        simp only [List.length_cons, List.length_nil, List.take_succ_cons] at c2
        have := (List.cons.injEq .. ▸ c2).1
        rw [this]; rfl
theorem stop_first {a n c : Nat} {t : List Nat} (hn : n < 10) (hc : t[0]? ≠ some (48 + n)) : Stop a n t := by
  cases e : fnd 10 t with
  | none => exact .inl e
  | some j =>
    refine .inr ⟨j, e, ?_⟩
    refine rowP_first (c := 0) hn fun z => hc ?_
    rw [List.getElem?_take] at z
    split at z
    · exact z
    · cases z
theorem fnd_spec {c : Nat} : ∀ {l : List Nat} {j : Nat}, fnd c l = some j → l[j]? = some c ∧ ∀ i < j, l[i]? ≠ some c
  | [], j, h => by cases h
  | x :: r, j, h => by
    unfold fnd at h
    split at h
    · rename_i e
      cases h
      exact ⟨by rw [e]; rfl, fun i hi => by omega⟩
    · rename_i e
      obtain ⟨k, e1, rfl⟩ := Option.map_eq_some_iff.mp h
      obtain ⟨s1, s2⟩ := fnd_spec e1
      refine ⟨by simpa using s1, fun i hi => ?_⟩
      cases i with
      | zero => simpa using e
      | succ i => simpa using s2 i (by omega)
theorem sg_inj {c d : Nat} (hc : c ∈ SG) (hd : d ∈ SG) (h : sg c = sg d) : c = d := by
  obtain ⟨i, e1, e2⟩ := fnd_mem hc
  obtain ⟨j, e3, e4⟩ := fnd_mem hd
  have hi : sg c = i := by unfold sg; rw [e1]; rfl
  have hj : sg d = j := by unfold sg; rw [e3]; rfl
  rw [hi, hj] at h
  subst h
  rw [e2] at e4
  exact Option.some.inj e4
theorem sg_lt {c : Nat} (hc : c ∈ SG) : sg c ≤ 46 := by
  have : ∀ c ∈ SG, sg c ≤ 46 := by decide
  exact this c hc
theorem sg_dig {c : Nat} (h1 : 48 ≤ c) (h2 : c ≤ 57) : sg c + 22 = c := by
  have : c = 48 ∨ c = 49 ∨ c = 50 ∨ c = 51 ∨ c = 52 ∨ c = 53 ∨ c = 54 ∨ c = 55 ∨ c = 56 ∨ c = 57 := by omega
  rcases this with rfl | rfl | rfl | rfl | rfl | rfl | rfl | rfl | rfl | rfl <;> decide
/-- one sign another: the sum -/
theorem sumP_set : ∀ (l : List Nat) (k i x : Nat), i < l.length → sumP k (l.set i x) + (k + i + 1) * (sg (l.getD i 0) + 1) = sumP k l + (k + i + 1) * (sg x + 1)
  | [], k, i, x, h => by simp at h
  | c :: r, k, 0, x, h => by
    simp only [List.set_cons_zero, sumP, List.getD_cons_zero, Nat.add_zero]
    omega
  | c :: r, k, i + 1, x, h => by
    have := sumP_set r (k + 1) i x (by simpa using h)
    simp only [List.set_cons_succ, sumP, List.getD_cons_succ]
    rw [show k + 1 + i + 1 = k + (i + 1) + 1 by omega] at this
    omega
/-- a row of the leaf's length -/
theorem stop_same {a n : Nat} {hd tl5 : List Nat} {c : Nat} {R : List Nat} (h5 : tl5.length = 5) (n1 : 10 ∉ hd) (n2 : c ≠ 10) (n3 : 10 ∉ tl5) :
    Stop a n (hd ++ c :: (tl5 ++ 10 :: R)) ∨ ((∀ x ∈ hd, x ∈ SG) ∧ c = 35 ∧ tl5 = pad5 (sumBy a hd)) := by
  have e : hd ++ c :: (tl5 ++ 10 :: R) = (hd ++ c :: tl5) ++ 10 :: R := by simp
  have nu : 10 ∉ hd ++ c :: tl5 := by
    intro m
    rcases List.mem_append.mp m with m | m
    · exact n1 m
    · rcases List.mem_cons.mp m with m | m
      · exact n2 m.symm
      · exact n3 m
  have ef := fnd_app R nu
  have l6 : (hd ++ c :: tl5).length - 6 = hd.length := by simp only [List.length_append, List.length_cons]; omega
  cases er : rowP a n (hd ++ c :: tl5) with
  | none =>
    left
    rw [e]
    exact .inr ⟨_, ef, by rw [List.take_left]; exact er⟩
  | some p =>
    right
    obtain ⟨⟨c1, _, _⟩, c2, c3⟩ := rowP_some er
    rw [l6, List.drop_left] at c1
    rw [l6, List.take_left] at c2
    rw [l6, List.drop_left, List.take_left] at c3
    refine ⟨c2, ?_, c3⟩
    exact (List.cons.inj c1).1
/-- 35 stands in a leaf once -/
theorem body_35 {a n : Nat} {w : List Nat} (hw : ∀ c ∈ w, c ∈ SG) {i : Nat} (h : (bodyBy a n w)[i]? = some 35) : i = (headBy n w).length := by
  unfold bodyBy at h
  rw [List.append_assoc] at h
  by_cases h1 : i < (headBy n w).length
  · rw [List.getElem?_append_left h1] at h
    exact absurd (head_SG hw 35 (List.mem_of_getElem? h)) SG_35
  · rw [List.getElem?_append_right (by omega)] at h
    cases e : i - (headBy n w).length with
    | zero => omega
    | succ k =>
      rw [e] at h
      have h : (pad5 (own a n w))[k]? = some 35 := h
      have := dig5 (own_lt a n w) (List.mem_of_getElem? h)
      omega
theorem body_len (a n : Nat) (w : List Nat) : (bodyBy a n w).length = (headBy n w).length + 6 := by
  unfold bodyBy
  simp only [List.length_append, pad5_len (own_lt a n w), List.length_cons, List.length_nil]
theorem head_len {n : Nat} (h : n < 10) (w : List Nat) : (headBy n w).length = w.length + 3 := by
  rw [head_beg, beg_1 h]
  simp only [List.length_append, List.length_cons, List.length_nil]; omega
/-- broken off by a line's end -/
theorem stop_cut {a n : Nat} {w : List Nat} (hn : n < 10) (hw : arew w = true) {j : Nat} (hj : j < (headBy n w).length + 6) (v : List Nat) : Stop a n ((bodyBy a n w).take j ++ 10 :: v) := by
  obtain ⟨w1, _, w3⟩ := arew_iff.mp hw
  have nu : 10 ∉ (bodyBy a n w).take j := fun m => body_10 w3 (List.mem_of_mem_take m)
  refine .inr ⟨_, fnd_app v nu, ?_⟩
  rw [List.take_left]
  have hl : ((bodyBy a n w).take j).length = j := by rw [List.length_take, body_len]; omega
  cases er : rowP a n ((bodyBy a n w).take j) with
  | none => rfl
  | some p =>
    obtain ⟨⟨c1, _, _⟩, _⟩ := rowP_some er
    rw [hl] at c1
    have g : ((bodyBy a n w).take j)[j - 6]? = some 35 := StrLaws.take1_drop.mp (by rw [c1]; rfl)
    rw [List.getElem?_take] at g
    split at g
    · have := body_35 w3 g
      have := head_len hn w
      omega
    · cases g
/-- the line's end gone -/
theorem stop_on {a n x : Nat} {w R : List Nat} (hw : arew w = true) (hx : x ≠ 10) (hR : R = [] ∨ ∃ (a2 n2 : Nat) (w2 R2 : List Nat), arew w2 = true ∧ R = bodyBy a2 n2 w2 ++ 10 :: R2) : Stop a n (bodyBy a n w ++ x :: R) := by
  obtain ⟨w1, _, w3⟩ := arew_iff.mp hw
  have n1 := body_10 (a := a) (n := n) w3
  rcases hR with rfl | ⟨a2, n2, w2, R2, hw2, rfl⟩
  · left
    refine fnd_not fun m => ?_
    rcases List.mem_append.mp m with m | m
    · exact n1 m
    · exact hx (List.mem_singleton.mp m).symm
  · have n2' := body_10 (a := a2) (n := n2) (arew_iff.mp hw2).2.2
    have e : bodyBy a n w ++ x :: (bodyBy a2 n2 w2 ++ 10 :: R2) = (bodyBy a n w ++ x :: bodyBy a2 n2 w2) ++ 10 :: R2 := by simp
    have nu : 10 ∉ bodyBy a n w ++ x :: bodyBy a2 n2 w2 := by
      intro m
      rcases List.mem_append.mp m with m | m
      · exact n1 m
      · rcases List.mem_cons.mp m with m | m
        · exact hx m.symm
        · exact n2' m
    rw [e]
    refine .inr ⟨_, fnd_app R2 nu, ?_⟩
    rw [List.take_left]
    cases er : rowP a n (bodyBy a n w ++ x :: bodyBy a2 n2 w2) with
    | none => rfl
    | some p =>
      obtain ⟨_, c2, _⟩ := rowP_some er
      have l6 : (bodyBy a n w ++ x :: bodyBy a2 n2 w2).length - 6 = (headBy n w).length + 7 + (headBy n2 w2).length := by
        simp only [List.length_append, List.length_cons, body_len]; omega
      rw [l6] at c2
      have g : ((bodyBy a n w ++ x :: bodyBy a2 n2 w2).take ((headBy n w).length + 7 + (headBy n2 w2).length))[(headBy n w).length]? = some 35 := by
        rw [List.getElem?_take, if_pos (by omega), List.getElem?_append_left (by rw [body_len]; omega)]
        unfold bodyBy
        rw [List.append_assoc, List.getElem?_append_right (Nat.le_refl _), Nat.sub_self]
        rfl
      exact absurd (c2 35 (List.mem_of_getElem? g)) SG_35
theorem pad5_inj {m n : Nat} (hm : m < 100000) (hn : n < 100000) (h : pad5 m = pad5 n) : m = n := by
  rw [pad5_eq hm, pad5_eq hn] at h
  simp only [List.cons.injEq, and_true] at h
  omega
theorem body_split (a n : Nat) (w : List Nat) : bodyBy a n w = headBy n w ++ 35 :: pad5 (own a n w) := by
  unfold bodyBy
  rw [List.append_assoc]; rfl
/-- one sign bent -/
theorem stop_bent {a n i x : Nat} {w R : List Nat} (hn : n < 10) (hw : arew w = true) (h30 : w.length ≤ 1000) (hi : i < (leafBy a n w).length) (hd : (leafBy a n w).set i x ≠ leafBy a n w)
    (hR : R = [] ∨ ∃ (a2 n2 : Nat) (w2 R2 : List Nat), arew w2 = true ∧ R = bodyBy a2 n2 w2 ++ 10 :: R2) : Stop a n ((leafBy a n w).set i x ++ R) := by
  obtain ⟨w1, _, w3⟩ := arew_iff.mp hw
  have lb := body_len a n w
  have lh := head_len hn w
  have ll : (leafBy a n w).length = (headBy n w).length + 7 := by rw [leaf_body, List.length_append, lb]; rfl
  rw [leaf_body] at hd ⊢
  by_cases h6 : i = (headBy n w).length + 6
  · have e : (bodyBy a n w ++ [10]).set i x = bodyBy a n w ++ [x] := by
      rw [List.set_append_right _ _ (by omega), show i - (bodyBy a n w).length = 0 by omega]; rfl
    rw [e] at hd ⊢
    have hx : x ≠ 10 := fun z => hd (by rw [z])
    rw [List.append_assoc]
    exact stop_on hw hx hR
  · have hi' : i < (bodyBy a n w).length := by omega
    have e : (bodyBy a n w ++ [10]).set i x = (bodyBy a n w).set i x ++ [10] := List.set_append_left _ _ hi'
    rw [e] at hd ⊢
    by_cases hx : x = 10
    · subst hx
      have es : (bodyBy a n w).set i 10 = (bodyBy a n w).take i ++ 10 :: (bodyBy a n w).drop (i + 1) := by
        rw [List.set_eq_take_append_cons_drop, if_pos hi']
      rw [es, List.append_assoc, List.append_assoc]
      exact stop_cut hn hw (by omega) _
    · have hd' : (bodyBy a n w).set i x ≠ bodyBy a n w := fun z => hd (by rw [z])
      have n1 : 10 ∉ headBy n w := fun m => SG_10 (head_SG w3 10 m)
      have n3 : 10 ∉ pad5 (own a n w) := fun m => by have := dig5 (own_lt a n w) m; omega
      have p5 := pad5_len (own_lt a n w)
      rw [body_split] at hd' ⊢
      by_cases c1 : i < (headBy n w).length
      · rw [List.set_append_left _ _ c1] at hd' ⊢
        have hq := stop_same (a := a) (n := n) (R := R) (hd := (headBy n w).set i x) (c := 35) (tl5 := pad5 (own a n w)) p5 (fun m => by
          rcases List.mem_or_eq_of_mem_set m with m | m
          · exact n1 m
          · exact hx m.symm) (by decide) n3
        rcases hq with hq | ⟨q1, _, q3⟩
        · simpa using hq
        · exfalso
          have eo := pad5_inj (own_lt a n w) (by have := sum_lt a ((headBy n w).set i x); omega) q3
          have ss := sumP_set (headBy n w) 0 i x c1
          have hx' : x ∈ SG := q1 x (List.mem_set c1 x)
          have ho : (headBy n w).getD i 0 ∈ SG := by
            rw [List.getD_eq_getElem?_getD, List.getElem?_eq_getElem c1]
            exact head_SG w3 _ (List.getElem_mem c1)
          have s1 := sg_lt hx'
          have s2 := sg_lt ho
          unfold own sumBy at eo
          have hse : sg ((headBy n w).getD i 0) = sg x := by
            have b1 : (i + 1) * (sg x + 1) ≤ 1003 * 47 := Nat.mul_le_mul (by omega) (by omega)
            have b2 : (i + 1) * (sg ((headBy n w).getD i 0) + 1) ≤ 1003 * 47 := Nat.mul_le_mul (by omega) (by omega)
            have : (i + 1) * (sg x + 1) = (i + 1) * (sg ((headBy n w).getD i 0) + 1) := by
              rw [Nat.zero_add] at ss
              omega
            have := Nat.eq_of_mul_eq_mul_left (by omega) this
            omega
          have := sg_inj ho hx' hse
          apply hd'
          rw [← this, List.getD_eq_getElem?_getD, List.getElem?_eq_getElem c1]
          simp
      · have ih : (headBy n w).length ≤ i := by omega
        rw [List.set_append_right _ _ ih] at hd' ⊢
        cases ek : i - (headBy n w).length with
        | zero =>
          rw [ek] at hd' 
          rw [List.set_cons_zero] at hd' ⊢
          have hq := stop_same (a := a) (n := n) (R := R) (hd := headBy n w) (c := x) (tl5 := pad5 (own a n w)) p5 n1 hx n3
          rcases hq with hq | ⟨_, q2, _⟩
          · simpa using hq
          · exact absurd (by rw [q2]) hd'
        | succ k =>
          rw [ek] at hd'
          rw [List.set_cons_succ] at hd' ⊢
          have hq := stop_same (a := a) (n := n) (R := R) (hd := headBy n w) (c := 35) (tl5 := (pad5 (own a n w)).set k x) (by rw [List.length_set]; exact p5) n1 (by decide) (fun m => by
            rcases List.mem_or_eq_of_mem_set m with m | m
            · exact n3 m
            · exact hx m.symm)
          rcases hq with hq | ⟨_, _, q3⟩
          · simpa using hq
          · exact absurd (by rw [q3]; rfl) hd'
theorem dec5 {n : Nat} (h : n < 100000) : ∃ d4 d3 d2 d1 d0, pad5 n = [48 + d4, 48 + d3, 48 + d2, 48 + d1, 48 + d0] ∧ n = 10000 * d4 + 1000 * d3 + 100 * d2 + 10 * d1 + d0 := ⟨_, _, _, _, _, pad5_eq h, by omega⟩
theorem mod_close {P Q A B C D : Nat} (h1 : P + A = Q + B) (h2 : P % 99989 + D = Q % 99989 + C) (hA : A ≤ 9027) (hB : B ≤ 9027) (hC : C ≤ 90000) (hD : D ≤ 90000) : A + C = B + D := by omega
theorem dig_case {N M x0 y0 i e U V a : Nat} (hN : N = (11 * a + U) % 99989) (hM : M = (11 * a + V) % 99989) (s1 : U + (i + 1) * x0 = V + (i + 1) * y0) (hi : i + 1 ≤ 1003) (hx : x0 ≤ 9) (hy : y0 ≤ 9) (he : e ≤ 10000) (h : N + y0 * e = M + x0 * e) : x0 = y0 := by
  have b1 : (i + 1) * x0 ≤ 1003 * 9 := Nat.mul_le_mul hi hx
  have b2 : (i + 1) * y0 ≤ 1003 * 9 := Nat.mul_le_mul hi hy
  have b3 : x0 * e ≤ 9 * 10000 := Nat.mul_le_mul hx he
  have b4 : y0 * e ≤ 9 * 10000 := Nat.mul_le_mul hy he
  have t := mod_close (P := 11 * a + U) (Q := 11 * a + V) (A := (i + 1) * x0) (B := (i + 1) * y0) (C := x0 * e) (D := y0 * e) (by omega) (by rw [← hN, ← hM]; exact h) b1 b2 b3 b4
  rw [Nat.mul_comm x0, Nat.mul_comm y0, ← Nat.add_mul, ← Nat.add_mul] at t
  exact Nat.eq_of_mul_eq_mul_left (by omega) t
theorem mod_eq {a S0 S1 S2 A B C D : Nat} (s1 : S1 + A = S0 + B) (s2 : S2 + D = S1 + C) (eo : (11 * a + S0) % 99989 = (11 * a + S2) % 99989) (b1 : A ≤ 1003 * 47) (b2 : B ≤ 1003 * 47) (b3 : C ≤ 1003 * 47) (b4 : D ≤ 1003 * 47) : A + D = B + C := by omega
end Lv
end
section
set_option Elab.async false
set_option linter.all false
set_option maxRecDepth 100000
set_option maxHeartbeats 4000000
/-! leaves: two signs exchanged. -/
namespace Lv
open PySem Fx
/-- two signs of a leaf exchanged -/
theorem stop_swap {a n i j x y : Nat} {w R : List Nat} (hn : n < 10) (hw : arew w = true) (h30 : w.length ≤ 1000) (hij : i < j) (hj : j < (leafBy a n w).length) (ex : (leafBy a n w)[i]? = some x) (ey : (leafBy a n w)[j]? = some y) (hxy : x ≠ y) :
    Stop a n (((leafBy a n w).set i y).set j x ++ R) := by
  obtain ⟨w1, _, w3⟩ := arew_iff.mp hw
  have lb := body_len a n w
  have lh := head_len hn w
  have ll : (leafBy a n w).length = (headBy n w).length + 7 := by rw [leaf_body, List.length_append, lb]; rfl
  have b10 : 10 ∉ bodyBy a n w := body_10 w3
  rw [leaf_body] at ex ey ⊢
  have hi' : i < (bodyBy a n w).length := by omega
  rw [List.getElem?_append_left hi'] at ex
  have e : (bodyBy a n w ++ [10]).set i y = (bodyBy a n w).set i y ++ [10] := List.set_append_left _ _ hi'
  have mx : x ∈ bodyBy a n w := List.mem_of_getElem? ex
  have x10 : x ≠ 10 := fun z => b10 (by rw [← z]; exact mx)
  rw [e]
  by_cases h6 : j = (headBy n w).length + 6
  · have : y = 10 := by
      rw [List.getElem?_append_right (by omega), show j - (bodyBy a n w).length = 0 by omega] at ey
      exact (Option.some.inj ey).symm
    subst this
    have e2 : ((bodyBy a n w).set i 10 ++ [10]).set j x = (bodyBy a n w).set i 10 ++ [x] := by
      rw [List.set_append_right _ _ (by rw [List.length_set]; omega), List.length_set, show j - (bodyBy a n w).length = 0 by omega]; rfl
    have es : (bodyBy a n w).set i 10 = (bodyBy a n w).take i ++ 10 :: (bodyBy a n w).drop (i + 1) := by
      rw [List.set_eq_take_append_cons_drop, if_pos hi']
    rw [e2, es, List.append_assoc, List.append_assoc]
    exact stop_cut hn hw (by omega) _
  · have hj' : j < (bodyBy a n w).length := by omega
    rw [List.getElem?_append_left hj'] at ey
    have my : y ∈ bodyBy a n w := List.mem_of_getElem? ey
    have y10 : y ≠ 10 := fun z => b10 (by rw [← z]; exact my)
    have e2 : ((bodyBy a n w).set i y ++ [10]).set j x = ((bodyBy a n w).set i y).set j x ++ [10] := List.set_append_left _ _ (by rw [List.length_set]; exact hj')
    rw [e2]
    have n1 : 10 ∉ headBy n w := fun m => SG_10 (head_SG w3 10 m)
    have n3 : 10 ∉ pad5 (own a n w) := fun m => by have := dig5 (own_lt a n w) m; omega
    have p5 := pad5_len (own_lt a n w)
    have ol := own_lt a n w
    rw [body_split] at ex ey ⊢
    by_cases c1 : i < (headBy n w).length
    · rw [List.getElem?_append_left c1] at ex
      have hx : x ∈ SG := head_SG w3 x (List.mem_of_getElem? ex)
      have gx : (headBy n w).getD i 0 = x := by rw [List.getD_eq_getElem?_getD, ex]; rfl
      rw [List.set_append_left _ _ c1]
      have nh : 10 ∉ (headBy n w).set i y := fun m => by
        rcases List.mem_or_eq_of_mem_set m with m | m
        · exact n1 m
        · exact y10 m.symm
      by_cases c2 : j < (headBy n w).length
      · rw [List.getElem?_append_left c2] at ey
        have hy : y ∈ SG := head_SG w3 y (List.mem_of_getElem? ey)
        rw [List.set_append_left _ _ (by rw [List.length_set]; exact c2)]
        have hq := stop_same (a := a) (n := n) (R := R) (hd := ((headBy n w).set i y).set j x) (c := 35) (tl5 := pad5 (own a n w)) p5 (fun m => by
          rcases List.mem_or_eq_of_mem_set m with m | m
          · exact nh m
          · exact x10 m.symm) (by decide) n3
        rcases hq with hq | ⟨_, _, q3⟩
        · simpa using hq
        · exfalso
          have eo := pad5_inj ol (by have := sum_lt a (((headBy n w).set i y).set j x); omega) q3
          have s1 := sumP_set (headBy n w) 0 i y c1
          have s2 := sumP_set ((headBy n w).set i y) 0 j x (by rw [List.length_set]; exact c2)
          have gj : ((headBy n w).set i y).getD j 0 = y := by
            rw [List.getD_eq_getElem?_getD, List.getElem?_set_ne (by omega), ey]; rfl
          rw [gx] at s1
          rw [gj] at s2
          rw [Nat.zero_add] at s1 s2
          unfold own sumBy at eo
          have k1 := sg_lt hx
          have k2 := sg_lt hy
          have b1 : (i + 1) * (sg x + 1) ≤ 1003 * 47 := Nat.mul_le_mul (by omega) (by omega)
          have b2 : (i + 1) * (sg y + 1) ≤ 1003 * 47 := Nat.mul_le_mul (by omega) (by omega)
          have b3 : (j + 1) * (sg x + 1) ≤ 1003 * 47 := Nat.mul_le_mul (by omega) (by omega)
          have b4 : (j + 1) * (sg y + 1) ≤ 1003 * 47 := Nat.mul_le_mul (by omega) (by omega)
          have ee := mod_eq s1 s2 eo b1 b2 b3 b4
          have hse : sg x = sg y := by
            obtain ⟨d, rfl⟩ : ∃ d, j = i + d + 1 := ⟨j - i - 1, by omega⟩
            have f1 : (i + d + 1 + 1) * (sg y + 1) = (i + 1) * (sg y + 1) + (d + 1) * (sg y + 1) := by rw [← Nat.add_mul]; congr 1; omega
            have f2 : (i + d + 1 + 1) * (sg x + 1) = (i + 1) * (sg x + 1) + (d + 1) * (sg x + 1) := by rw [← Nat.add_mul]; congr 1; omega
            rw [f1, f2] at ee
            have : (d + 1) * (sg y + 1) = (d + 1) * (sg x + 1) := by omega
            have := Nat.eq_of_mul_eq_mul_left (by omega) this
            omega
          exact hxy (sg_inj hx hy hse)
      · have jh : (headBy n w).length ≤ j := by omega
        rw [List.getElem?_append_right jh] at ey
        rw [List.set_append_right _ _ (by rw [List.length_set]; exact jh), List.length_set]
        cases ek : j - (headBy n w).length with
        | zero =>
          rw [List.set_cons_zero]
          have hq := stop_same (a := a) (n := n) (R := R) (hd := (headBy n w).set i y) (c := x) (tl5 := pad5 (own a n w)) p5 nh x10 n3
          rcases hq with hq | ⟨_, q2, _⟩
          · simpa using hq
          · exact absurd (by rw [← q2]; exact hx) SG_35
        | succ k =>
          rw [ek, List.getElem?_cons_succ] at ey
          rw [List.set_cons_succ]
          have hy := dig5 ol (List.mem_of_getElem? ey)
          have hq := stop_same (a := a) (n := n) (R := R) (hd := (headBy n w).set i y) (c := 35) (tl5 := (pad5 (own a n w)).set k x) (by rw [List.length_set]; exact p5) nh (by decide) (fun m => by
            rcases List.mem_or_eq_of_mem_set m with m | m
            · exact n3 m
            · exact x10 m.symm)
          rcases hq with hq | ⟨_, _, q3⟩
          · simpa using hq
          · exfalso
            have sl := sum_lt a ((headBy n w).set i y)
            have hk : k < 5 := by
              have := (List.getElem?_eq_some_iff.mp ey).1
              omega
            have hxd : 48 ≤ x ∧ x ≤ 57 := by
              refine dig5 (n := sumBy a ((headBy n w).set i y)) (by omega) ?_
              rw [← q3]
              exact List.mem_set (by rw [p5]; exact hk) x
            have s1 := sumP_set (headBy n w) 0 i y c1
            rw [gx, Nat.zero_add] at s1
            have d1 := sg_dig hxd.1 hxd.2
            have d2 := sg_dig hy.1 hy.2
            have eo : sumBy a ((headBy n w).set i y) = (11 * a + sumP 0 ((headBy n w).set i y)) % 99989 := rfl
            have eo' : own a n w = (11 * a + sumP 0 (headBy n w)) % 99989 := rfl
            generalize hN : sumBy a ((headBy n w).set i y) = N at q3 sl eo
            generalize hM : own a n w = M at ol p5 ey q3 eo'
            generalize sumP 0 ((headBy n w).set i y) = U at s1 eo
            generalize sumP 0 (headBy n w) = V at s1 eo'
            have hi1 : i + 1 ≤ 1003 := by omega
            rw [show sg x + 1 = x - 21 by omega, show sg y + 1 = y - 21 by omega] at s1
            obtain ⟨x0, rfl⟩ : ∃ x0, x = x0 + 48 := ⟨x - 48, by omega⟩
            obtain ⟨y0, rfl⟩ : ∃ y0, y = y0 + 48 := ⟨y - 48, by omega⟩
            rw [show x0 + 48 - 21 = x0 + 27 by omega, show y0 + 48 - 21 = y0 + 27 by omega, Nat.mul_add, Nat.mul_add] at s1
            have s1 : U + (i + 1) * x0 = V + (i + 1) * y0 := by omega
            have sN : N < 100000 := by omega
            have hx9 : x0 ≤ 9 := by omega
            have hy9 : y0 ≤ 9 := by omega
            have key : ∀ e : Nat, e ≤ 10000 → N + y0 * e = M + x0 * e → False := fun e he hN => hxy (by rw [dig_case eo eo' s1 hi1 hx9 hy9 he hN])
            clear hN hM eo eo' s1 d1 d2 hi1 sl hxd hy ek c1 jh lh ll lb
            obtain ⟨a4, a3, a2, a1, a0, pa, va⟩ := dec5 sN
            obtain ⟨m4, m3, m2, m1, m0, pm, vm⟩ := dec5 ol
            rw [pa, pm] at q3
            rw [pm] at ey
            have hk' : k = 0 ∨ k = 1 ∨ k = 2 ∨ k = 3 ∨ k = 4 := by omega
            rcases hk' with rfl | rfl | rfl | rfl | rfl
            · simp only [List.set_cons_zero, List.set_cons_succ, List.getElem?_cons_zero, List.getElem?_cons_succ, List.cons.injEq, and_true, Option.some.injEq] at q3 ey
              exact key 10000 (by omega) (by omega)
            · simp only [List.set_cons_zero, List.set_cons_succ, List.getElem?_cons_zero, List.getElem?_cons_succ, List.cons.injEq, and_true, Option.some.injEq] at q3 ey
              exact key 1000 (by omega) (by omega)
            · simp only [List.set_cons_zero, List.set_cons_succ, List.getElem?_cons_zero, List.getElem?_cons_succ, List.cons.injEq, and_true, Option.some.injEq] at q3 ey
              exact key 100 (by omega) (by omega)
            · simp only [List.set_cons_zero, List.set_cons_succ, List.getElem?_cons_zero, List.getElem?_cons_succ, List.cons.injEq, and_true, Option.some.injEq] at q3 ey
              exact key 10 (by omega) (by omega)
            · simp only [List.set_cons_zero, List.set_cons_succ, List.getElem?_cons_zero, List.getElem?_cons_succ, List.cons.injEq, and_true, Option.some.injEq] at q3 ey
              exact key 1 (by omega) (by omega)
    · have ih : (headBy n w).length ≤ i := by omega
      have jh : (headBy n w).length ≤ j := by omega
      rw [List.getElem?_append_right ih] at ex
      rw [List.getElem?_append_right jh] at ey
      rw [List.set_append_right _ _ ih, List.set_append_right _ _ jh]
      obtain ⟨k, ek⟩ : ∃ k, j - (headBy n w).length = k + 1 := ⟨j - (headBy n w).length - 1, by omega⟩
      rw [ek, List.getElem?_cons_succ] at ey
      cases ei : i - (headBy n w).length with
      | zero =>
        rw [ei] at ex
        rw [ek, List.set_cons_zero, List.set_cons_succ]
        have hy := dig5 ol (List.mem_of_getElem? ey)
        have hq := stop_same (a := a) (n := n) (R := R) (hd := headBy n w) (c := y) (tl5 := (pad5 (own a n w)).set k x) (by rw [List.length_set]; exact p5) n1 y10 (fun m => by
          rcases List.mem_or_eq_of_mem_set m with m | m
          · exact n3 m
          · exact x10 m.symm)
        rcases hq with hq | ⟨_, q2, _⟩
        · simpa using hq
        · omega
      | succ l =>
        rw [ei, List.getElem?_cons_succ] at ex
        rw [ek, List.set_cons_succ, List.set_cons_succ]
        have hq := stop_same (a := a) (n := n) (R := R) (hd := headBy n w) (c := 35) (tl5 := ((pad5 (own a n w)).set l y).set k x) (by rw [List.length_set, List.length_set]; exact p5) n1 (by decide) (fun m => by
          rcases List.mem_or_eq_of_mem_set m with m | m
          · rcases List.mem_or_eq_of_mem_set m with m | m
            · exact n3 m
            · exact y10 m.symm
          · exact x10 m.symm)
        rcases hq with hq | ⟨_, _, q3⟩
        · simpa using hq
        · exfalso
          have : (((pad5 (own a n w)).set l y).set k x)[l]? = some y := by
            rw [List.getElem?_set_ne (by omega), List.getElem?_set_self (List.getElem?_eq_some_iff.mp ex).1]
          have q3 : ((pad5 (own a n w)).set l y).set k x = pad5 (own a n w) := q3
          rw [q3, ex] at this
          exact hxy (Option.some.inj this)
end Lv
end
section
set_option Elab.async false
set_option linter.all false
set_option maxRecDepth 100000
set_option maxHeartbeats 16000000
namespace K54
open PySem Fx
def tops (i : Nat) : Stmt := PySem.Challenge.pw_resumetrue_k54_main_leaves_broken_off.main.body.getD i (.Pass ⟨0, 0, 0, 0⟩)
def f__law_draws : FnI := ⟨(PySem.Str.ofString "_law_draws"), [(PySem.Str.ofString "script"), (PySem.Str.ofString "many")], [(PySem.Str.ofString "script"), (PySem.Str.ofString "many"), (PySem.Str.ofString "draws"), (PySem.Str.ofString "seed"), (PySem.Str.ofString "cell"), (PySem.Str.ofString "number"), (PySem.Str.ofString "k")],
  (.cons (.asg (.name 2) (.list true .nil)) (.cons (.asg (.name 3) (.int 7)) (.cons (.forS (.name 4) (.seq (.slice (.var 0) .none (.some (.int 63)))) (.cons (.asg (.name 5) (.bcall .abs (.cons (.var 4) .nil))) (.cons (.asg (.name 3) (.bin .Mod (.bcall .int (.cons (.bin .Add (.bin .Add (.bin .Mult (.var 3) (.int 48271)) (.var 5)) (.int 11)) .nil)) (.int 2147483647))) (.cons (.ifS (.cmp .GtE (.var 5) (.bin .Pow (.int 10) (.int 18))) (.cons (.forS (.name 6) (.range1 (.int 60)) (.cons (.ifS (.cmp .Gt (.var 5) (.int 0)) (.cons (.expr (.meth .append (.var 2) (.cons (.bin .Mod (.bcall .int (.cons (.var 5) .nil)) (.int 1009)) .nil))) (.cons (.asg (.name 5) (.bin .FloorDiv (.var 5) (.int 1009))) .nil)) .nil) .nil)) .nil) (.cons (.expr (.meth .append (.var 2) (.cons (.bin .Mod (.bin .FloorDiv (.bcall .int (.cons (.bin .Add (.bin .Mult (.var 3) (.int 16807)) (.int 5)) .nil)) (.int 3)) (.int 65521)) .nil))) .nil)) .nil)))) (.cons (.forS (.name 6) (.range1 (.var 1)) (.cons (.ifS (.cmp .Lt (.bcall .len (.cons (.var 2) .nil)) (.var 1)) (.cons (.asg (.name 3) (.bin .Mod (.bcall .int (.cons (.bin .Add (.bin .Add (.bin .Mult (.var 3) (.int 69621)) (.var 6)) (.int 1)) .nil)) (.int 2147483647))) (.cons (.expr (.meth .append (.var 2) (.cons (.bin .Mod (.bin .FloorDiv (.bcall .int (.cons (.var 3) .nil)) (.int 7)) (.int 65521)) .nil))) .nil)) .nil) .nil)) (.cons (.ret (.slice (.var 2) .none (.some (.var 1)))) .nil)))))⟩
def f__law_sum : FnI := ⟨(PySem.Str.ofString "_law_sum"), [(PySem.Str.ofString "ahead"), (PySem.Str.ofString "text")], [(PySem.Str.ofString "ahead"), (PySem.Str.ofString "text"), (PySem.Str.ofString "signs"), (PySem.Str.ofString "found"), (PySem.Str.ofString "k")],
  (.cons (.par 2 3 (.str (PySem.Str.ofString "abcdefghijklmnopqrstuvwxyz0123456789()+-*<=,:; ")) (.bin .Mult (.int 11) (.var 0))) (.cons (.forS (.name 4) (.range1 (.bcall .len (.cons (.var 1) .nil))) (.cons (.asg (.name 3) (.bin .Add (.var 3) (.bin .Mult (.bin .Add (.var 4) (.int 1)) (.bin .Add (.meth .index (.var 2) (.cons (.sub (.var 1) (.var 4)) .nil)) (.int 1))))) .nil)) (.cons (.ret (.bin .Mod (.bcall .int (.cons (.var 3) .nil)) (.int 99989))) .nil)))⟩
def f__law_leaves : FnI := ⟨(PySem.Str.ofString "_law_leaves"), [(PySem.Str.ofString "texts")], [(PySem.Str.ofString "texts"), (PySem.Str.ofString "found"), (PySem.Str.ofString "ahead"), (PySem.Str.ofString "k"), (PySem.Str.ofString "head"), (PySem.Str.ofString "size")],
  (.cons (.par 1 2 (.list true .nil) (.int 0)) (.cons (.forS (.name 3) (.range1 (.bcall .len (.cons (.var 0) .nil))) (.cons (.asg (.name 4) (.bin .Add (.bin .Add (.bin .Add (.bcall .str (.cons (.bin .Add (.var 3) (.int 1)) .nil)) (.str (PySem.Str.ofString " "))) (.sub (.var 0) (.var 3))) (.str (PySem.Str.ofString " ")))) (.cons (.asg (.name 2) (.call 9001 (.cons (.var 2) (.cons (.var 4) .nil)))) (.cons (.expr (.meth .append (.var 1) (.cons (.bin .Add (.bin .Add (.bin .Add (.var 4) (.str (PySem.Str.ofString "#"))) (.meth .join (.str (PySem.Str.ofString "")) (.cons (.comp (.slice (.bcall .str (.cons (.bin .FloorDiv (.var 2) (.var 5)) .nil)) (.some (.neg (.int 1))) .none) (.name 5) (.seq (.list false (.cons (.int 10000) (.cons (.int 1000) (.cons (.int 100) (.cons (.int 10) (.cons (.int 1) .nil))))))) .nil [((PySem.Str.ofString "size"), 5)]) .nil))) (.str (PySem.Str.ofString "\n"))) .nil))) .nil)))) (.cons (.ret (.var 1)) .nil)))⟩
def f__law_text : FnI := ⟨(PySem.Str.ofString "_law_text"), [(PySem.Str.ofString "draws"), (PySem.Str.ofString "at")], [(PySem.Str.ofString "draws"), (PySem.Str.ofString "at"), (PySem.Str.ofString "signs"), (PySem.Str.ofString "draw"), (PySem.Str.ofString "k")],
  (.cons (.asg (.name 2) (.str (PySem.Str.ofString "abz019()+-*<=,:; "))) (.cons (.asg (.name 3) (.bcall .int (.cons (.sub (.var 0) (.bin .Mod (.var 1) (.bcall .len (.cons (.var 0) .nil)))) .nil))) (.cons (.ret (.meth .join (.str (PySem.Str.ofString "")) (.cons (.comp (.sub (.var 2) (.bin .Mod (.bin .FloorDiv (.bcall .int (.cons (.sub (.var 0) (.bin .Mod (.bin .Add (.var 1) (.var 4)) (.bcall .len (.cons (.var 0) .nil)))) .nil)) (.bin .Add (.int 1) (.var 4))) (.int 17))) (.name 4) (.range1 (.bin .Add (.int 1) (.bin .Mod (.var 3) (.int 30)))) .nil [((PySem.Str.ofString "k"), 4)]) .nil))) .nil)))⟩
def f__law_due : FnI := ⟨(PySem.Str.ofString "_law_due"), [(PySem.Str.ofString "leaves"), (PySem.Str.ofString "texts"), (PySem.Str.ofString "text")], [(PySem.Str.ofString "leaves"), (PySem.Str.ofString "texts"), (PySem.Str.ofString "text"), (PySem.Str.ofString "count"), (PySem.Str.ofString "k")],
  (.cons (.asg (.name 3) (.int 0)) (.cons (.forS (.name 4) (.range1 (.bcall .len (.cons (.var 0) .nil))) (.cons (.ifS (.cmp .Eq (.slice (.var 2) .none (.some (.bcall .len (.cons (.meth .join (.str (PySem.Str.ofString "")) (.cons (.slice (.var 0) .none (.some (.bin .Add (.var 4) (.int 1)))) .nil)) .nil)))) (.meth .join (.str (PySem.Str.ofString "")) (.cons (.slice (.var 0) .none (.some (.bin .Add (.var 4) (.int 1)))) .nil))) (.cons (.asg (.name 3) (.bin .Add (.var 4) (.int 1))) .nil) .nil) .nil)) (.cons (.ret (.tup (.cons (.slice (.var 1) .none (.some (.var 3))) (.cons (.bcall .len (.cons (.meth .join (.str (PySem.Str.ofString "")) (.cons (.slice (.var 0) .none (.some (.var 3))) .nil)) .nil)) .nil)))) .nil)))⟩
def f__law_word : FnI := ⟨(PySem.Str.ofString "_law_word"), [(PySem.Str.ofString "way"), (PySem.Str.ofString "one")], [(PySem.Str.ofString "way"), (PySem.Str.ofString "one")],
  (.cons (.tryS (.cons (.ifS (.cmp .Eq (.var 0) (.int 0)) (.cons (.expr (.call 1104 (.cons (.var 1) .nil))) .nil) (.cons (.expr (.call 1108 (.cons (.var 1) .nil))) .nil)) .nil) (.cons 19 (.cons (.ret (.str (PySem.Str.ofString "words"))) .nil) (.cons 20 (.cons (.ret (.str (PySem.Str.ofString "text"))) .nil) (.cons 8 (.cons (.ret (.str (PySem.Str.ofString "many"))) .nil) .nil)))) (.cons (.ret (.str (PySem.Str.ofString "none"))) .nil))⟩
def f_law_b0 : ISs := (.cons (.ifS (.cmp .NotEq (.call 9005 (.cons (.int 0) (.cons (.var 16) .nil))) (.str (PySem.Str.ofString "words"))) (.cons (.ret (.bl false)) .nil) .nil) .nil)
def f_law_b1 : ISs := (.cons (.asg (.name 15) (.bin .Add (.bin .Add (.bin .Add (.var 14) (.str (PySem.Str.ofString "#"))) (.meth .join (.str (PySem.Str.ofString "")) (.cons (.comp (.slice (.bcall .str (.cons (.bin .FloorDiv (.call 9001 (.cons (.int 0) (.cons (.var 14) .nil))) (.var 17)) .nil)) (.some (.neg (.int 1))) .none) (.name 17) (.seq (.list false (.cons (.int 10000) (.cons (.int 1000) (.cons (.int 100) (.cons (.int 10) (.cons (.int 1) .nil))))))) .nil [((PySem.Str.ofString "size"), 17)]) .nil))) (.str (PySem.Str.ofString "\n")))) (.cons (.ifS (.bool .And (.cons (.cmp .NotEq (.call 1108 (.cons (.var 15) .nil)) (.tup (.cons (.tup .nil) (.cons (.int 0) .nil)))) (.cons (.bool .Or (.cons (.cmp .NotEq (.var 14) (.bin .Add (.str (PySem.Str.ofString "1 ")) (.sub (.var 3) (.int 0)))) (.cons (.cmp .NotEq (.slice (.sub (.var 3) (.int 0)) (.some (.neg (.int 1))) .none) (.str (PySem.Str.ofString " "))) (.cons (.cmp .Lt (.bcall .len (.cons (.sub (.var 3) (.int 0)) .nil)) (.int 2)) .nil)))) .nil))) (.cons (.ret (.bl false)) .nil) .nil) .nil))
def f_law_b2 : ISs := (.cons (.asg (.name 10) (.meth .join (.str (PySem.Str.ofString "")) (.cons (.bin .Add (.bin .Add (.bin .Add (.bin .Add (.slice (.var 4) .none (.some (.var 6))) (.list false (.cons (.sub (.var 4) (.var 7)) .nil))) (.slice (.var 4) (.some (.bin .Add (.var 6) (.int 1))) (.some (.var 7)))) (.list false (.cons (.sub (.var 4) (.var 6)) .nil))) (.slice (.var 4) (.some (.bin .Add (.var 7) (.int 1))) .none)) .nil))) (.cons (.ifS (.cmp .NotEq (.call 1108 (.cons (.var 10) .nil)) (.tup (.cons (.slice (.var 3) .none (.some (.var 6))) (.cons (.bcall .len (.cons (.meth .join (.str (PySem.Str.ofString "")) (.cons (.slice (.var 4) .none (.some (.var 6))) .nil)) .nil)) .nil)))) (.cons (.ret (.bl false)) .nil) .nil) .nil))
def f_law_b3 : ISs := (.cons (.forS (.name 7) (.range2 (.bin .Add (.var 6) (.int 1)) (.bcall .len (.cons (.var 4) .nil))) f_law_b2) (.cons (.ifS (.cmp .NotEq (.call 1108 (.cons (.meth .join (.str (PySem.Str.ofString "")) (.cons (.bin .Add (.slice (.var 4) .none (.some (.bin .Add (.var 6) (.int 1)))) (.slice (.var 4) (.some (.var 6)) .none)) .nil)) .nil)) (.tup (.cons (.slice (.var 3) .none (.some (.bin .Add (.var 6) (.int 1)))) (.cons (.bcall .len (.cons (.meth .join (.str (PySem.Str.ofString "")) (.cons (.slice (.var 4) .none (.some (.bin .Add (.var 6) (.int 1)))) .nil)) .nil)) .nil)))) (.cons (.ret (.bl false)) .nil) .nil) (.cons (.ifS (.bool .And (.cons (.cmp .Lt (.var 6) (.bin .Sub (.bcall .len (.cons (.var 4) .nil)) (.int 1))) (.cons (.cmp .NotEq (.call 1108 (.cons (.meth .join (.str (PySem.Str.ofString "")) (.cons (.bin .Add (.slice (.var 4) .none (.some (.var 6))) (.slice (.var 4) (.some (.bin .Add (.var 6) (.int 1))) .none)) .nil)) .nil)) (.tup (.cons (.slice (.var 3) .none (.some (.var 6))) (.cons (.bcall .len (.cons (.meth .join (.str (PySem.Str.ofString "")) (.cons (.slice (.var 4) .none (.some (.var 6))) .nil)) .nil)) .nil)))) .nil))) (.cons (.ret (.bl false)) .nil) .nil) .nil)))
def f_law_b4 : ISs := (.cons (.asg (.name 8) (.bin .Mod (.bcall .int (.cons (.sub (.var 1) (.bin .Mod (.bin .Add (.bin .Add (.int 10) (.bin .Mult (.int 2) (.var 7))) (.var 2)) (.int 120))) .nil)) (.bcall .len (.cons (.var 5) .nil)))) (.cons (.asg (.name 9) (.sub (.str (PySem.Str.ofString "abz019()+-*<=,:; #\nAX\"{}[]?/|")) (.bin .Mod (.bcall .int (.cons (.sub (.var 1) (.bin .Mod (.bin .Add (.bin .Add (.int 11) (.bin .Mult (.int 2) (.var 7))) (.var 2)) (.int 120))) .nil)) (.int 29)))) (.cons (.asg (.name 10) (.bin .Add (.bin .Add (.slice (.var 5) .none (.some (.var 8))) (.var 9)) (.slice (.var 5) (.some (.bin .Add (.var 8) (.int 1))) .none))) (.cons (.ifS (.cmp .NotEq (.call 1108 (.cons (.var 10) .nil)) (.call 9004 (.cons (.var 4) (.cons (.var 3) (.cons (.var 10) .nil))))) (.cons (.ret (.bl false)) .nil) .nil) (.cons (.asg (.name 6) (.bin .Mod (.bcall .int (.cons (.sub (.var 1) (.bin .Mod (.bin .Add (.bin .Add (.int 60) (.var 7)) (.var 2)) (.int 120))) .nil)) (.bcall .len (.cons (.var 4) .nil)))) (.cons (.par 11 12 (.bin .Mod (.bcall .int (.cons (.sub (.var 1) (.bin .Mod (.bin .Add (.bin .Add (.int 61) (.var 7)) (.var 2)) (.int 120))) .nil)) (.bcall .len (.cons (.sub (.var 4) (.var 6)) .nil))) (.bin .Mod (.bcall .int (.cons (.sub (.var 1) (.bin .Mod (.bin .Add (.bin .Add (.int 62) (.var 7)) (.var 2)) (.int 120))) .nil)) (.bcall .len (.cons (.sub (.var 4) (.var 6)) .nil)))) (.cons (.par 11 12 (.bcall .min (.cons (.var 11) (.cons (.var 12) .nil))) (.bcall .max (.cons (.var 11) (.cons (.var 12) .nil)))) (.cons (.asg (.name 13) (.ite (.cmp .Lt (.var 11) (.var 12)) (.bin .Add (.bin .Add (.bin .Add (.bin .Add (.slice (.sub (.var 4) (.var 6)) .none (.some (.var 11))) (.sub (.sub (.var 4) (.var 6)) (.var 12))) (.slice (.sub (.var 4) (.var 6)) (.some (.bin .Add (.var 11) (.int 1))) (.some (.var 12)))) (.sub (.sub (.var 4) (.var 6)) (.var 11))) (.slice (.sub (.var 4) (.var 6)) (.some (.bin .Add (.var 12) (.int 1))) .none)) (.sub (.var 4) (.var 6)))) (.cons (.asg (.name 10) (.bin .Add (.bin .Add (.meth .join (.str (PySem.Str.ofString "")) (.cons (.slice (.var 4) .none (.some (.var 6))) .nil)) (.var 13)) (.meth .join (.str (PySem.Str.ofString "")) (.cons (.slice (.var 4) (.some (.bin .Add (.var 6) (.int 1))) .none) .nil)))) (.cons (.ifS (.cmp .NotEq (.call 1108 (.cons (.var 10) .nil)) (.call 9004 (.cons (.var 4) (.cons (.var 3) (.cons (.var 10) .nil))))) (.cons (.ret (.bl false)) .nil) .nil) .nil))))))))))
def f_law_b5 : ISs := (.cons (.ifS (.cmp .NotEq (.call 1108 (.cons (.slice (.var 5) .none (.some (.var 6))) .nil)) (.call 9004 (.cons (.var 4) (.cons (.var 3) (.cons (.slice (.var 5) .none (.some (.var 6))) .nil))))) (.cons (.ret (.bl false)) .nil) .nil) .nil)
def f_law_b6 : ISs := (.cons (.asg (.name 3) (.bcall .tuple (.cons (.comp (.call 9003 (.cons (.var 1) (.cons (.bin .Add (.bin .Add (.int 7) (.bin .Mult (.int 13) (.var 6))) (.var 2)) .nil))) (.name 6) (.range1 (.bin .Add (.int 1) (.bin .Mod (.bcall .int (.cons (.sub (.var 1) (.bin .Add (.int 3) (.var 2))) .nil)) (.int 5)))) .nil [((PySem.Str.ofString "k"), 6)]) .nil))) (.cons (.asg (.name 4) (.call 9002 (.cons (.var 3) .nil))) (.cons (.asg (.name 5) (.meth .join (.str (PySem.Str.ofString "")) (.cons (.var 4) .nil))) (.cons (.ifS (.bool .Or (.cons (.cmp .NotEq (.call 1104 (.cons (.var 3) .nil)) (.var 5)) (.cons (.cmp .NotEq (.call 1108 (.cons (.var 5) .nil)) (.tup (.cons (.var 3) (.cons (.bcall .len (.cons (.var 5) .nil)) .nil)))) .nil))) (.cons (.ret (.bl false)) .nil) .nil) (.cons (.forS (.name 6) (.range1 (.bin .Add (.bcall .len (.cons (.var 5) .nil)) (.int 1))) f_law_b5) (.cons (.forS (.name 7) (.range1 (.int 40)) f_law_b4) (.cons (.forS (.name 6) (.range1 (.bcall .len (.cons (.var 4) .nil))) f_law_b3) (.cons (.forS (.name 14) (.seq (.list false (.cons (.bin .Add (.bin .Add (.str (PySem.Str.ofString "01 ")) (.sub (.var 3) (.int 0))) (.str (PySem.Str.ofString " "))) (.cons (.bin .Add (.str (PySem.Str.ofString "1 ")) (.sub (.var 3) (.int 0))) (.cons (.bin .Add (.bin .Add (.str (PySem.Str.ofString " ")) (.sub (.var 3) (.int 0))) (.str (PySem.Str.ofString " "))) (.cons (.str (PySem.Str.ofString "1  ")) (.cons (.bin .Add (.bin .Add (.str (PySem.Str.ofString "2 ")) (.sub (.var 3) (.int 0))) (.str (PySem.Str.ofString " "))) (.cons (.bin .Add (.bin .Add (.str (PySem.Str.ofString "x ")) (.sub (.var 3) (.int 0))) (.str (PySem.Str.ofString " "))) (.cons (.bin .Add (.bin .Add (.str (PySem.Str.ofString "-1 ")) (.sub (.var 3) (.int 0))) (.str (PySem.Str.ofString " "))) .nil))))))))) f_law_b1) .nil))))))))
def f_law : FnI := ⟨(PySem.Str.ofString "law"), [(PySem.Str.ofString "script")], [(PySem.Str.ofString "script"), (PySem.Str.ofString "draws"), (PySem.Str.ofString "turn"), (PySem.Str.ofString "texts"), (PySem.Str.ofString "leaves"), (PySem.Str.ofString "whole"), (PySem.Str.ofString "k"), (PySem.Str.ofString "n"), (PySem.Str.ofString "at"), (PySem.Str.ofString "sign"), (PySem.Str.ofString "bent"), (PySem.Str.ofString "i"), (PySem.Str.ofString "j"), (PySem.Str.ofString "leaf"), (PySem.Str.ofString "head"), (PySem.Str.ofString "bad"), (PySem.Str.ofString "wrong"), (PySem.Str.ofString "size")],
  (.cons (.asg (.name 1) (.call 9000 (.cons (.var 0) (.cons (.int 120) .nil)))) (.cons (.forS (.name 2) (.range1 (.int 3)) f_law_b6) (.cons (.forS (.name 16) (.seq (.list false (.cons .non (.cons (.str (PySem.Str.ofString "a")) (.cons (.list false (.cons (.str (PySem.Str.ofString "a")) .nil)) (.cons (.tup (.cons (.str (PySem.Str.ofString "")) .nil)) (.cons (.tup (.cons (.str (PySem.Str.ofString "A")) .nil)) (.cons (.tup (.cons (.str (PySem.Str.ofString "a\n")) .nil)) (.cons (.tup (.cons (.str (PySem.Str.ofString "#")) .nil)) (.cons (.tup (.cons .non .nil)) (.cons (.tup (.cons (.bin .Mult (.str (PySem.Str.ofString "a")) (.int 20001)) .nil)) .nil))))))))))) f_law_b0) (.cons (.ifS (.bool .Or (.cons (.cmp .NotEq (.comp (.call 9005 (.cons (.int 1) (.cons (.var 16) .nil))) (.name 16) (.seq (.list false (.cons .non (.cons (.int 5) (.cons (.tup (.cons (.str (PySem.Str.ofString "a")) .nil)) .nil))))) .nil [((PySem.Str.ofString "wrong"), 16)]) (.bin .Mult (.list false (.cons (.str (PySem.Str.ofString "text")) .nil)) (.int 3))) (.cons (.cmp .NotEq (.call 1104 (.cons (.tup .nil) .nil)) (.str (PySem.Str.ofString ""))) (.cons (.cmp .NotEq (.call 1108 (.cons (.str (PySem.Str.ofString "")) .nil)) (.tup (.cons (.tup .nil) (.cons (.int 0) .nil)))) .nil)))) (.cons (.ret (.bl false)) .nil) .nil) (.cons (.ret (.bool .And (.cons (.cmp .Eq (.call 1108 (.cons (.call 1104 (.cons (.tup (.cons (.bin .Mult (.str (PySem.Str.ofString "a")) (.int 20000)) .nil)) .nil)) .nil)) (.tup (.cons (.tup (.cons (.bin .Mult (.str (PySem.Str.ofString "a")) (.int 20000)) .nil)) (.cons (.int 20010) .nil)))) (.cons (.cmp .Eq (.call 1108 (.cons (.str (PySem.Str.ofString "hello\n")) .nil)) (.tup (.cons (.tup .nil) (.cons (.int 0) .nil)))) .nil)))) .nil)))))⟩
def excSub : Nat → Nat → Bool := fun i j => [(0, 0), (8, 0), (8, 8), (19, 0), (19, 19), (20, 0), (20, 20)].contains (i, j)
def tab : Tab where
  defs := [⟨1100, M_leaves.f_are_words, tops 12⟩, ⟨1101, M_leaves.f_sum_by, tops 13⟩, ⟨1102, M_leaves.f_leaf_by, tops 14⟩, ⟨1103, M_leaves.f_leaves_by, tops 15⟩, ⟨1104, M_leaves.f_leaves_of, tops 16⟩, ⟨1105, M_leaves.f__row, tops 17⟩, ⟨1106, M_leaves.f_rows_of, tops 18⟩, ⟨1107, M_leaves.f_check_text, tops 19⟩, ⟨1108, M_leaves.f_words_in, tops 20⟩, ⟨9000, f__law_draws, tops 22⟩, ⟨9001, f__law_sum, tops 23⟩, ⟨9002, f__law_leaves, tops 24⟩, ⟨9003, f__law_text, tops 25⟩, ⟨9004, f__law_due, tops 26⟩, ⟨9005, f__law_word, tops 27⟩, ⟨9006, f_law, tops 28⟩]
  globs := [(1100, (PySem.Str.ofString "SIGNS"), .str (PySem.Str.ofString "abcdefghijklmnopqrstuvwxyz0123456789()+-*<=,:; ")), (1101, (PySem.Str.ofString "MOST_WORDS"), .int 20000), (1102, (PySem.Str.ofString "MOST_LEAVES"), .int 99999), (1103, (PySem.Str.ofString "SUMS"), .int 99989), (1104, (PySem.Str.ofString "WEIGHT"), .int 11), (1105, (PySem.Str.ofString "TAIL"), .int 6)]
  excs := [(0, (PySem.Str.ofString "ResumeError")), (8, (PySem.Str.ofString "TooMany")), (19, (PySem.Str.ofString "BadWords")), (20, (PySem.Str.ofString "BadText"))]
  sub := excSub
  fuel := 100000
theorem ok_are_words : DefOk tab.cfg ⟨1100, M_leaves.f_are_words, tops 12⟩ where
  sc := ⟨rfl, rfl, rfl, by decide +kernel, rfl, by decide +kernel, by decide +kernel⟩
  bind := fun _ _ _ _ _ _ us hl => match us, hl with | [_], _ => rfl
  eq := by decide +kernel
theorem ok_sum_by : DefOk tab.cfg ⟨1101, M_leaves.f_sum_by, tops 13⟩ where
  sc := ⟨rfl, rfl, rfl, by decide +kernel, rfl, by decide +kernel, by decide +kernel⟩
  bind := fun _ _ _ _ _ _ us hl => match us, hl with | [_, _], _ => rfl
  eq := by decide +kernel
theorem ok_leaf_by : DefOk tab.cfg ⟨1102, M_leaves.f_leaf_by, tops 14⟩ where
  sc := ⟨rfl, rfl, rfl, by decide +kernel, rfl, by decide +kernel, by decide +kernel⟩
  bind := fun _ _ _ _ _ _ us hl => match us, hl with | [_, _, _], _ => rfl
  eq := by decide +kernel
theorem ok_leaves_by : DefOk tab.cfg ⟨1103, M_leaves.f_leaves_by, tops 15⟩ where
  sc := ⟨rfl, rfl, rfl, by decide +kernel, rfl, by decide +kernel, by decide +kernel⟩
  bind := fun _ _ _ _ _ _ us hl => match us, hl with | [_], _ => rfl
  eq := by decide +kernel
theorem ok_leaves_of : DefOk tab.cfg ⟨1104, M_leaves.f_leaves_of, tops 16⟩ where
  sc := ⟨rfl, rfl, rfl, by decide +kernel, rfl, by decide +kernel, by decide +kernel⟩
  bind := fun _ _ _ _ _ _ us hl => match us, hl with | [_], _ => rfl
  eq := by decide +kernel
theorem ok__row : DefOk tab.cfg ⟨1105, M_leaves.f__row, tops 17⟩ where
  sc := ⟨rfl, rfl, rfl, by decide +kernel, rfl, by decide +kernel, by decide +kernel⟩
  bind := fun _ _ _ _ _ _ us hl => match us, hl with | [_, _, _], _ => rfl
  eq := by decide +kernel
theorem ok_rows_of : DefOk tab.cfg ⟨1106, M_leaves.f_rows_of, tops 18⟩ where
  sc := ⟨rfl, rfl, rfl, by decide +kernel, rfl, by decide +kernel, by decide +kernel⟩
  bind := fun _ _ _ _ _ _ us hl => match us, hl with | [_], _ => rfl
  eq := by decide +kernel
theorem ok_check_text : DefOk tab.cfg ⟨1107, M_leaves.f_check_text, tops 19⟩ where
  sc := ⟨rfl, rfl, rfl, by decide +kernel, rfl, by decide +kernel, by decide +kernel⟩
  bind := fun _ _ _ _ _ _ us hl => match us, hl with | [_], _ => rfl
  eq := by decide +kernel
theorem ok_words_in : DefOk tab.cfg ⟨1108, M_leaves.f_words_in, tops 20⟩ where
  sc := ⟨rfl, rfl, rfl, by decide +kernel, rfl, by decide +kernel, by decide +kernel⟩
  bind := fun _ _ _ _ _ _ us hl => match us, hl with | [_], _ => rfl
  eq := by decide +kernel
theorem ok__law_draws : DefOk tab.cfg ⟨9000, f__law_draws, tops 22⟩ where
  sc := ⟨rfl, rfl, rfl, by decide +kernel, rfl, by decide +kernel, by decide +kernel⟩
  bind := fun _ _ _ _ _ _ us hl => match us, hl with | [_, _], _ => rfl
  eq := by decide +kernel
theorem ok__law_sum : DefOk tab.cfg ⟨9001, f__law_sum, tops 23⟩ where
  sc := ⟨rfl, rfl, rfl, by decide +kernel, rfl, by decide +kernel, by decide +kernel⟩
  bind := fun _ _ _ _ _ _ us hl => match us, hl with | [_, _], _ => rfl
  eq := by decide +kernel
theorem ok__law_leaves : DefOk tab.cfg ⟨9002, f__law_leaves, tops 24⟩ where
  sc := ⟨rfl, rfl, rfl, by decide +kernel, rfl, by decide +kernel, by decide +kernel⟩
  bind := fun _ _ _ _ _ _ us hl => match us, hl with | [_], _ => rfl
  eq := by decide +kernel
theorem ok__law_text : DefOk tab.cfg ⟨9003, f__law_text, tops 25⟩ where
  sc := ⟨rfl, rfl, rfl, by decide +kernel, rfl, by decide +kernel, by decide +kernel⟩
  bind := fun _ _ _ _ _ _ us hl => match us, hl with | [_, _], _ => rfl
  eq := by decide +kernel
theorem ok__law_due : DefOk tab.cfg ⟨9004, f__law_due, tops 26⟩ where
  sc := ⟨rfl, rfl, rfl, by decide +kernel, rfl, by decide +kernel, by decide +kernel⟩
  bind := fun _ _ _ _ _ _ us hl => match us, hl with | [_, _, _], _ => rfl
  eq := by decide +kernel
theorem ok__law_word : DefOk tab.cfg ⟨9005, f__law_word, tops 27⟩ where
  sc := ⟨rfl, rfl, rfl, by decide +kernel, rfl, by decide +kernel, by decide +kernel⟩
  bind := fun _ _ _ _ _ _ us hl => match us, hl with | [_, _], _ => rfl
  eq := by decide +kernel
theorem ok_law : DefOk tab.cfg ⟨9006, f_law, tops 28⟩ where
  sc := ⟨rfl, rfl, rfl, by decide +kernel, rfl, by decide +kernel, by decide +kernel⟩
  bind := fun _ _ _ _ _ _ us hl => match us, hl with | [_], _ => rfl
  eq := by decide +kernel
theorem all_ok : ∀ d ∈ tab.defs, DefOk tab.cfg d := by
  intro d m
  simp only [tab, List.mem_cons, List.not_mem_nil, or_false] at m
  rcases m with rfl | rfl | rfl | rfl | rfl | rfl | rfl | rfl | rfl | rfl | rfl | rfl | rfl | rfl | rfl | rfl
  · exact ok_are_words
  · exact ok_sum_by
  · exact ok_leaf_by
  · exact ok_leaves_by
  · exact ok_leaves_of
  · exact ok__row
  · exact ok_rows_of
  · exact ok_check_text
  · exact ok_words_in
  · exact ok__law_draws
  · exact ok__law_sum
  · exact ok__law_leaves
  · exact ok__law_text
  · exact ok__law_due
  · exact ok__law_word
  · exact ok_law
def loose : List PySem.Str := ["ResumeError", "TooMany", "BadWords", "BadText", "SIGNS", "MOST_WORDS", "MOST_LEAVES", "SUMS", "WEIGHT", "TAIL", "are_words", "sum_by", "leaf_by", "leaves_by", "leaves_of", "_row", "rows_of", "check_text", "words_in", "_law_draws", "_law_sum", "_law_leaves", "_law_text", "_law_due", "_law_word"]
end K54
end
section
set_option Elab.async false
set_option linter.all false
set_option maxRecDepth 100000
set_option maxHeartbeats 4000000
/-! the law's own functions. -/
namespace K54
open PySem Fx Lv
open SX (S)
open L2 (atI)
theorem has : HasLeaves tab.cfg where
  f0 := rfl
  f1 := rfl
  f2 := rfl
  f3 := rfl
  f4 := rfl
  f5 := rfl
  f6 := rfl
  f7 := rfl
  f8 := rfl
  g0 := ⟨Str.ofString "SIGNS", by
    show some (_, PV.str (Str.ofString _)) = _
    rw [of_lit]; rfl⟩
  g1 := ⟨_, rfl⟩
  g2 := ⟨_, rfl⟩
  g3 := ⟨_, rfl⟩
  g4 := ⟨_, rfl⟩
  g5 := ⟨_, rfl⟩
abbrev C : Cfg := tab.cfg
/-! _law_sum -/
theorem law_sum (k : Nat) (a : Nat) (l : List Nat) (hl : l.length ≤ 16777216) (hs : ∀ c ∈ l, c ∈ SG) (h : PHeap) : Fx.run C (k + 1) 9001 [.int a, sv l] h = .ok (.int (sumBy a l : Nat)) h := by
  rw [run_succ (F := f__law_sum) rfl k _ _ rfl]
  unfold f__law_sum
  have ln := line24
  have hL : L "abcdefghijklmnopqrstuvwxyz0123456789()+-*<=,:; " = SG := rfl
  simp (disch := first | assumption | omega | (simp only [List.length_append, List.length_cons, List.length_nil, List.length_take, List.length_drop, List.length_replicate, List.length_map]; omega)) only [startP, List.map_cons, List.map_nil, List.length_cons, List.length_nil, List.replicate_succ, List.replicate_zero, List.cons_append, List.nil_append, Nat.add_zero, Nat.zero_add, Nat.reduceAdd, Nat.reduceSub, Nat.reduceLT, Nat.reduceLeDiff, List.getElem?_cons_succ, List.getElem?_cons_zero, List.set_cons_succ, List.set_cons_zero, bind_ok, bind_exc, calm_ok, lift_some,
      x_var, x_int, x_lit, x_bl, x_non, x_bin, x_neg, x_cmp, x_chain, x_bool, x_not, x_ite, x_call, x_bcall, x_isi, x_meth, x_tup, x_listT, x_listF, x_sub, x_slice, x_nil, x_cons, x_onone, x_osome, x_tnil, x_tcons, x_b1, x_and, x_or, x_seq, x_range1, x_range2, x_enum,
      s_nil, s_cons, s_expr, s_ret, s_retN, s_asg, s_par, s_aug, s_if, s_raise, s_try, s_pass, s_brk, s_cont, h_nil, h_cons, tru_bl, b_add, b_sub, b_addI, b_mulI, b_mod, b_fdiv, a_addI, a_subI, c_eq, c_ne, c_lt, c_le, c_gt, c_ge, c_in, c_nin, c_isN, c_isnotN, eq_int, bindN, bindTp, setA0, setA1, omap, Option.map_some, Option.map_none, add_sv, aug_sv, len_sv, sub_sv, cut_sv, find_sv, find3_sv, index_sv, in_sv, r_index, r_rjust, r_find, r_find3, r_join, if_true, bx, nx, nxc, tx, ny_next, ny_cont, ny_brk, ny_ret, ny_exc, len_app, len_lst, len_tup, tuple_lst, r_app, append_app, add_tup, add_lst, sub_tup, sub_lst, slice_tup, slice_lst, at_0, at_1, at_2, at_3, at_m1, rg1_ok, rg2_ok, Int.toNat_natCast, int_int, abs_int, min_int, max_int, slice_scr, s_for, hL]
  generalize hq : forL _ _ _ _ _ _ = q
  obtain ⟨σ', h', rfl, e1, e2⟩ := for_q hq (fun i σ g => g = h ∧ ∃ y, σ = [some (.int a), some (sv l), some (sv SG), some (.int ((11 * a + sumP 0 (l.take i) : Nat) : Int)), y]) (fun _ _ _ _ => rfl) ⟨rfl, none, by simp [sumP]⟩ (by
    rintro i x σ g hx ⟨rfl, y, rfl⟩
    obtain ⟨rfl, hi⟩ := rangeL_at _ _ _ hx
    have h2 : l[i]? = some l[i] := List.getElem?_eq_getElem hi
    have mc : l[i] ∈ l := List.getElem_mem hi
    generalize l[i] = c at h2 mc
    simp (disch := first | assumption | omega | (simp only [List.length_append, List.length_cons, List.length_nil, List.length_take, List.length_drop, List.length_replicate, List.length_map]; omega)) only [startP, List.map_cons, List.map_nil, List.length_cons, List.length_nil, List.replicate_succ, List.replicate_zero, List.cons_append, List.nil_append, Nat.add_zero, Nat.zero_add, Nat.reduceAdd, Nat.reduceSub, Nat.reduceLT, Nat.reduceLeDiff, List.getElem?_cons_succ, List.getElem?_cons_zero, List.set_cons_succ, List.set_cons_zero, bind_ok, bind_exc, calm_ok, lift_some,
      x_var, x_int, x_lit, x_bl, x_non, x_bin, x_neg, x_cmp, x_chain, x_bool, x_not, x_ite, x_call, x_bcall, x_isi, x_meth, x_tup, x_listT, x_listF, x_sub, x_slice, x_nil, x_cons, x_onone, x_osome, x_tnil, x_tcons, x_b1, x_and, x_or, x_seq, x_range1, x_range2, x_enum,
      s_nil, s_cons, s_expr, s_ret, s_retN, s_asg, s_par, s_aug, s_if, s_raise, s_try, s_pass, s_brk, s_cont, h_nil, h_cons, tru_bl, b_add, b_sub, b_addI, b_mulI, b_mod, b_fdiv, a_addI, a_subI, c_eq, c_ne, c_lt, c_le, c_gt, c_ge, c_in, c_nin, c_isN, c_isnotN, eq_int, bindN, bindTp, setA0, setA1, omap, Option.map_some, Option.map_none, add_sv, aug_sv, len_sv, sub_sv, cut_sv, find_sv, find3_sv, index_sv, in_sv, r_index, r_rjust, r_find, r_find3, r_join, if_true, bx, nx, nxc, tx, ny_next, ny_cont, ny_brk, ny_ret, ny_exc, len_app, len_lst, len_tup, tuple_lst, r_app, append_app, add_tup, add_lst, sub_tup, sub_lst, slice_tup, slice_lst, at_0, at_1, at_2, at_3, at_m1, rg1_ok, rg2_ok, Int.toNat_natCast, int_int, abs_int, min_int, max_int, slice_scr, atI_nat, h2, sg_of (hs c mc)]
    refine ⟨trivial, some (.int i), ?_⟩
    have et : l.take (i + 1) = l.take i ++ [c] := by rw [List.take_add_one, h2]; rfl
    have el : (l.take i).length = i := by simp; omega
    have ev : ((11 * a + sumP 0 (l.take (i + 1)) : Nat) : Int) = ((11 * a + sumP 0 (l.take i) : Nat) : Int) + ((i : Int) + 1) * ((sg c : Int) + 1) := by
      rw [et, sumP_app, el]
      simp only [sumP, Nat.zero_add, Nat.add_zero]
      push_cast
      omega
    rw [ev])
  subst e1
  obtain ⟨y, rfl⟩ := e2
  have em : (((11 * a + sumP 0 l : Nat) : Int) % 99989) = ((sumBy a l : Nat) : Int) := by unfold sumBy; omega
  rw [rangeL_n, List.take_of_length_le (Nat.le_refl _)]
  simp (disch := first | assumption | omega | (simp only [List.length_append, List.length_cons, List.length_nil, List.length_take, List.length_drop, List.length_replicate, List.length_map]; omega)) only [startP, List.map_cons, List.map_nil, List.length_cons, List.length_nil, List.replicate_succ, List.replicate_zero, List.cons_append, List.nil_append, Nat.add_zero, Nat.zero_add, Nat.reduceAdd, Nat.reduceSub, Nat.reduceLT, Nat.reduceLeDiff, List.getElem?_cons_succ, List.getElem?_cons_zero, List.set_cons_succ, List.set_cons_zero, bind_ok, bind_exc, calm_ok, lift_some,
      x_var, x_int, x_lit, x_bl, x_non, x_bin, x_neg, x_cmp, x_chain, x_bool, x_not, x_ite, x_call, x_bcall, x_isi, x_meth, x_tup, x_listT, x_listF, x_sub, x_slice, x_nil, x_cons, x_onone, x_osome, x_tnil, x_tcons, x_b1, x_and, x_or, x_seq, x_range1, x_range2, x_enum,
      s_nil, s_cons, s_expr, s_ret, s_retN, s_asg, s_par, s_aug, s_if, s_raise, s_try, s_pass, s_brk, s_cont, h_nil, h_cons, tru_bl, b_add, b_sub, b_addI, b_mulI, b_mod, b_fdiv, a_addI, a_subI, c_eq, c_ne, c_lt, c_le, c_gt, c_ge, c_in, c_nin, c_isN, c_isnotN, eq_int, bindN, bindTp, setA0, setA1, omap, Option.map_some, Option.map_none, add_sv, aug_sv, len_sv, sub_sv, cut_sv, find_sv, find3_sv, index_sv, in_sv, r_index, r_rjust, r_find, r_find3, r_join, if_true, bx, nx, nxc, tx, ny_next, ny_cont, ny_brk, ny_ret, ny_exc, len_app, len_lst, len_tup, tuple_lst, r_app, append_app, add_tup, add_lst, sub_tup, sub_lst, slice_tup, slice_lst, at_0, at_1, at_2, at_3, at_m1, rg1_ok, rg2_ok, Int.toNat_natCast, int_int, abs_int, min_int, max_int, slice_scr, em]
  exact exit_ret0 rfl
/-! _law_leaves -/
theorem num_drop (m : Nat) : (TL.numL m).drop ((TL.numL m).length - 1) = [48 + m % 10] := by
  obtain ⟨u, e, _⟩ := num_last m
  rw [e]
  have : (u ++ [48 + m % 10]).length - 1 = u.length := by simp
  rw [this, List.drop_left]
def digs (N : Nat) : List PV := [sv [48 + N / 10000 % 10], sv [48 + N / 1000 % 10], sv [48 + N / 100 % 10], sv [48 + N / 10 % 10], sv [48 + N / 1 % 10]]
theorem digs_pad {N : Nat} (h : N < 100000) : digs N = [[48 + N / 10000 % 10], [48 + N / 1000 % 10], [48 + N / 100 % 10], [48 + N / 10 % 10], [48 + N % 10]].map sv ∧ [[48 + N / 10000 % 10], [48 + N / 1000 % 10], [48 + N / 100 % 10], [48 + N / 10 % 10], [48 + N % 10]].flatten = pad5 N := by
  constructor
  · unfold digs; rw [Nat.div_one]; rfl
  · rw [pad5_eq h]; rfl
theorem join_digs (h : PHeap) {N : Nat} (q : N < 100000) : bmV .join h (sv []) [.lst (digs N)] = .ok (sv (pad5 N)) h := by
  obtain ⟨e1, e2⟩ := digs_pad q
  rw [join_sv h _ _ (by rw [e1]; rfl) (by rw [e2, pad5_len q]; decide), e2]
theorem comp_digs (k N : Nat) (q : N < 100000) (a b c d : Option PV) (h : PHeap) : evE C (Fx.run C k) (.comp (.slice (.bcall .str (.cons (.bin .FloorDiv (.var 2) (.var 5)) .nil)) (.some (.neg (.int 1))) .none) (.name 5) (.seq (.list false (.cons (.int 10000) (.cons (.int 1000) (.cons (.int 100) (.cons (.int 10) (.cons (.int 1) .nil))))))) .nil [((PySem.Str.ofString "size"), 5)]) [a, b, some (.int (N : Nat)), c, d, none] h = .ok (.lst (digs N)) h := by
  have ln := line24
  refine ev_comp (items := [.int 10000, .int 1000, .int 100, .int 10, .int 1]) (w := none) (fun v => match v with
    | .int s => sv [48 + N / s.toNat % 10]
    | v => v) (by simp (disch := first | assumption | omega | (simp only [List.length_append, List.length_cons, List.length_nil, List.length_take, List.length_drop, List.length_replicate, List.length_map]; omega)) only [startP, List.map_cons, List.map_nil, List.length_cons, List.length_nil, List.replicate_succ, List.replicate_zero, List.cons_append, List.nil_append, Nat.add_zero, Nat.zero_add, Nat.reduceAdd, Nat.reduceSub, Nat.reduceLT, Nat.reduceLeDiff, List.getElem?_cons_succ, List.getElem?_cons_zero, List.set_cons_succ, List.set_cons_zero, bind_ok, bind_exc, calm_ok, lift_some,
      x_var, x_int, x_lit, x_bl, x_non, x_bin, x_neg, x_cmp, x_chain, x_bool, x_not, x_ite, x_call, x_bcall, x_isi, x_meth, x_tup, x_listT, x_listF, x_sub, x_slice, x_nil, x_cons, x_onone, x_osome, x_tnil, x_tcons, x_b1, x_and, x_or, x_seq, x_range1, x_range2, x_enum,
      s_nil, s_cons, s_expr, s_ret, s_retN, s_asg, s_par, s_aug, s_if, s_raise, s_try, s_pass, s_brk, s_cont, h_nil, h_cons, tru_bl, b_add, b_sub, b_addI, b_mulI, b_mod, b_fdiv, a_addI, a_subI, c_eq, c_ne, c_lt, c_le, c_gt, c_ge, c_in, c_nin, c_isN, c_isnotN, eq_int, bindN, bindTp, setA0, setA1, omap, Option.map_some, Option.map_none, add_sv, aug_sv, len_sv, sub_sv, cut_sv, find_sv, find3_sv, index_sv, in_sv, r_index, r_rjust, r_find, r_find3, r_join, if_true, bx, nx, nxc, tx, ny_next, ny_cont, ny_brk, ny_ret, ny_exc, len_app, len_lst, len_tup, tuple_lst, r_app, append_app, add_tup, add_lst, sub_tup, sub_lst, slice_tup, slice_lst, at_0, at_1, at_2, at_3, at_m1, rg1_ok, rg2_ok, Int.toNat_natCast, int_int, abs_int, min_int, max_int, slice_scr, seqL]) (fun _ => rfl) (by
    intro x hx acc
    simp only [List.mem_cons, List.not_mem_nil, or_false] at hx
    rcases hx with rfl | rfl | rfl | rfl | rfl
    · refine ⟨_, rfl, ?_⟩
      have e : ((N : Int) / 10000) = ((N / 10000 : Nat) : Int) := rfl
      have l9 := num_len (show N / 10000 < 1000000000 by omega)
      simp (disch := first | assumption | omega | (simp only [List.length_append, List.length_cons, List.length_nil, List.length_take, List.length_drop, List.length_replicate, List.length_map]; omega)) only [startP, List.map_cons, List.map_nil, List.length_cons, List.length_nil, List.replicate_succ, List.replicate_zero, List.cons_append, List.nil_append, Nat.add_zero, Nat.zero_add, Nat.reduceAdd, Nat.reduceSub, Nat.reduceLT, Nat.reduceLeDiff, List.getElem?_cons_succ, List.getElem?_cons_zero, List.set_cons_succ, List.set_cons_zero, bind_ok, bind_exc, calm_ok, lift_some,
      x_var, x_int, x_lit, x_bl, x_non, x_bin, x_neg, x_cmp, x_chain, x_bool, x_not, x_ite, x_call, x_bcall, x_isi, x_meth, x_tup, x_listT, x_listF, x_sub, x_slice, x_nil, x_cons, x_onone, x_osome, x_tnil, x_tcons, x_b1, x_and, x_or, x_seq, x_range1, x_range2, x_enum,
      s_nil, s_cons, s_expr, s_ret, s_retN, s_asg, s_par, s_aug, s_if, s_raise, s_try, s_pass, s_brk, s_cont, h_nil, h_cons, tru_bl, b_add, b_sub, b_addI, b_mulI, b_mod, b_fdiv, a_addI, a_subI, c_eq, c_ne, c_lt, c_le, c_gt, c_ge, c_in, c_nin, c_isN, c_isnotN, eq_int, bindN, bindTp, setA0, setA1, omap, Option.map_some, Option.map_none, add_sv, aug_sv, len_sv, sub_sv, cut_sv, find_sv, find3_sv, index_sv, in_sv, r_index, r_rjust, r_find, r_find3, r_join, if_true, bx, nx, nxc, tx, ny_next, ny_cont, ny_brk, ny_ret, ny_exc, len_app, len_lst, len_tup, tuple_lst, r_app, append_app, add_tup, add_lst, sub_tup, sub_lst, slice_tup, slice_lst, at_0, at_1, at_2, at_3, at_m1, rg1_ok, rg2_ok, Int.toNat_natCast, int_int, abs_int, min_int, max_int, slice_scr, wipeP, e, b_str, cut_m1, num_drop]
      rfl
    · refine ⟨_, rfl, ?_⟩
      have e : ((N : Int) / 1000) = ((N / 1000 : Nat) : Int) := rfl
      have l9 := num_len (show N / 1000 < 1000000000 by omega)
      simp (disch := first | assumption | omega | (simp only [List.length_append, List.length_cons, List.length_nil, List.length_take, List.length_drop, List.length_replicate, List.length_map]; omega)) only [startP, List.map_cons, List.map_nil, List.length_cons, List.length_nil, List.replicate_succ, List.replicate_zero, List.cons_append, List.nil_append, Nat.add_zero, Nat.zero_add, Nat.reduceAdd, Nat.reduceSub, Nat.reduceLT, Nat.reduceLeDiff, List.getElem?_cons_succ, List.getElem?_cons_zero, List.set_cons_succ, List.set_cons_zero, bind_ok, bind_exc, calm_ok, lift_some,
      x_var, x_int, x_lit, x_bl, x_non, x_bin, x_neg, x_cmp, x_chain, x_bool, x_not, x_ite, x_call, x_bcall, x_isi, x_meth, x_tup, x_listT, x_listF, x_sub, x_slice, x_nil, x_cons, x_onone, x_osome, x_tnil, x_tcons, x_b1, x_and, x_or, x_seq, x_range1, x_range2, x_enum,
      s_nil, s_cons, s_expr, s_ret, s_retN, s_asg, s_par, s_aug, s_if, s_raise, s_try, s_pass, s_brk, s_cont, h_nil, h_cons, tru_bl, b_add, b_sub, b_addI, b_mulI, b_mod, b_fdiv, a_addI, a_subI, c_eq, c_ne, c_lt, c_le, c_gt, c_ge, c_in, c_nin, c_isN, c_isnotN, eq_int, bindN, bindTp, setA0, setA1, omap, Option.map_some, Option.map_none, add_sv, aug_sv, len_sv, sub_sv, cut_sv, find_sv, find3_sv, index_sv, in_sv, r_index, r_rjust, r_find, r_find3, r_join, if_true, bx, nx, nxc, tx, ny_next, ny_cont, ny_brk, ny_ret, ny_exc, len_app, len_lst, len_tup, tuple_lst, r_app, append_app, add_tup, add_lst, sub_tup, sub_lst, slice_tup, slice_lst, at_0, at_1, at_2, at_3, at_m1, rg1_ok, rg2_ok, Int.toNat_natCast, int_int, abs_int, min_int, max_int, slice_scr, wipeP, e, b_str, cut_m1, num_drop]
      rfl
    · refine ⟨_, rfl, ?_⟩
      have e : ((N : Int) / 100) = ((N / 100 : Nat) : Int) := rfl
      have l9 := num_len (show N / 100 < 1000000000 by omega)
      simp (disch := first | assumption | omega | (simp only [List.length_append, List.length_cons, List.length_nil, List.length_take, List.length_drop, List.length_replicate, List.length_map]; omega)) only [startP, List.map_cons, List.map_nil, List.length_cons, List.length_nil, List.replicate_succ, List.replicate_zero, List.cons_append, List.nil_append, Nat.add_zero, Nat.zero_add, Nat.reduceAdd, Nat.reduceSub, Nat.reduceLT, Nat.reduceLeDiff, List.getElem?_cons_succ, List.getElem?_cons_zero, List.set_cons_succ, List.set_cons_zero, bind_ok, bind_exc, calm_ok, lift_some,
      x_var, x_int, x_lit, x_bl, x_non, x_bin, x_neg, x_cmp, x_chain, x_bool, x_not, x_ite, x_call, x_bcall, x_isi, x_meth, x_tup, x_listT, x_listF, x_sub, x_slice, x_nil, x_cons, x_onone, x_osome, x_tnil, x_tcons, x_b1, x_and, x_or, x_seq, x_range1, x_range2, x_enum,
      s_nil, s_cons, s_expr, s_ret, s_retN, s_asg, s_par, s_aug, s_if, s_raise, s_try, s_pass, s_brk, s_cont, h_nil, h_cons, tru_bl, b_add, b_sub, b_addI, b_mulI, b_mod, b_fdiv, a_addI, a_subI, c_eq, c_ne, c_lt, c_le, c_gt, c_ge, c_in, c_nin, c_isN, c_isnotN, eq_int, bindN, bindTp, setA0, setA1, omap, Option.map_some, Option.map_none, add_sv, aug_sv, len_sv, sub_sv, cut_sv, find_sv, find3_sv, index_sv, in_sv, r_index, r_rjust, r_find, r_find3, r_join, if_true, bx, nx, nxc, tx, ny_next, ny_cont, ny_brk, ny_ret, ny_exc, len_app, len_lst, len_tup, tuple_lst, r_app, append_app, add_tup, add_lst, sub_tup, sub_lst, slice_tup, slice_lst, at_0, at_1, at_2, at_3, at_m1, rg1_ok, rg2_ok, Int.toNat_natCast, int_int, abs_int, min_int, max_int, slice_scr, wipeP, e, b_str, cut_m1, num_drop]
      rfl
    · refine ⟨_, rfl, ?_⟩
      have e : ((N : Int) / 10) = ((N / 10 : Nat) : Int) := rfl
      have l9 := num_len (show N / 10 < 1000000000 by omega)
      simp (disch := first | assumption | omega | (simp only [List.length_append, List.length_cons, List.length_nil, List.length_take, List.length_drop, List.length_replicate, List.length_map]; omega)) only [startP, List.map_cons, List.map_nil, List.length_cons, List.length_nil, List.replicate_succ, List.replicate_zero, List.cons_append, List.nil_append, Nat.add_zero, Nat.zero_add, Nat.reduceAdd, Nat.reduceSub, Nat.reduceLT, Nat.reduceLeDiff, List.getElem?_cons_succ, List.getElem?_cons_zero, List.set_cons_succ, List.set_cons_zero, bind_ok, bind_exc, calm_ok, lift_some,
      x_var, x_int, x_lit, x_bl, x_non, x_bin, x_neg, x_cmp, x_chain, x_bool, x_not, x_ite, x_call, x_bcall, x_isi, x_meth, x_tup, x_listT, x_listF, x_sub, x_slice, x_nil, x_cons, x_onone, x_osome, x_tnil, x_tcons, x_b1, x_and, x_or, x_seq, x_range1, x_range2, x_enum,
      s_nil, s_cons, s_expr, s_ret, s_retN, s_asg, s_par, s_aug, s_if, s_raise, s_try, s_pass, s_brk, s_cont, h_nil, h_cons, tru_bl, b_add, b_sub, b_addI, b_mulI, b_mod, b_fdiv, a_addI, a_subI, c_eq, c_ne, c_lt, c_le, c_gt, c_ge, c_in, c_nin, c_isN, c_isnotN, eq_int, bindN, bindTp, setA0, setA1, omap, Option.map_some, Option.map_none, add_sv, aug_sv, len_sv, sub_sv, cut_sv, find_sv, find3_sv, index_sv, in_sv, r_index, r_rjust, r_find, r_find3, r_join, if_true, bx, nx, nxc, tx, ny_next, ny_cont, ny_brk, ny_ret, ny_exc, len_app, len_lst, len_tup, tuple_lst, r_app, append_app, add_tup, add_lst, sub_tup, sub_lst, slice_tup, slice_lst, at_0, at_1, at_2, at_3, at_m1, rg1_ok, rg2_ok, Int.toNat_natCast, int_int, abs_int, min_int, max_int, slice_scr, wipeP, e, b_str, cut_m1, num_drop]
      rfl
    · refine ⟨_, rfl, ?_⟩
      have e : ((N : Int) / 1) = ((N / 1 : Nat) : Int) := rfl
      have l9 := num_len (show N / 1 < 1000000000 by omega)
      simp (disch := first | assumption | omega | (simp only [List.length_append, List.length_cons, List.length_nil, List.length_take, List.length_drop, List.length_replicate, List.length_map]; omega)) only [startP, List.map_cons, List.map_nil, List.length_cons, List.length_nil, List.replicate_succ, List.replicate_zero, List.cons_append, List.nil_append, Nat.add_zero, Nat.zero_add, Nat.reduceAdd, Nat.reduceSub, Nat.reduceLT, Nat.reduceLeDiff, List.getElem?_cons_succ, List.getElem?_cons_zero, List.set_cons_succ, List.set_cons_zero, bind_ok, bind_exc, calm_ok, lift_some,
      x_var, x_int, x_lit, x_bl, x_non, x_bin, x_neg, x_cmp, x_chain, x_bool, x_not, x_ite, x_call, x_bcall, x_isi, x_meth, x_tup, x_listT, x_listF, x_sub, x_slice, x_nil, x_cons, x_onone, x_osome, x_tnil, x_tcons, x_b1, x_and, x_or, x_seq, x_range1, x_range2, x_enum,
      s_nil, s_cons, s_expr, s_ret, s_retN, s_asg, s_par, s_aug, s_if, s_raise, s_try, s_pass, s_brk, s_cont, h_nil, h_cons, tru_bl, b_add, b_sub, b_addI, b_mulI, b_mod, b_fdiv, a_addI, a_subI, c_eq, c_ne, c_lt, c_le, c_gt, c_ge, c_in, c_nin, c_isN, c_isnotN, eq_int, bindN, bindTp, setA0, setA1, omap, Option.map_some, Option.map_none, add_sv, aug_sv, len_sv, sub_sv, cut_sv, find_sv, find3_sv, index_sv, in_sv, r_index, r_rjust, r_find, r_find3, r_join, if_true, bx, nx, nxc, tx, ny_next, ny_cont, ny_brk, ny_ret, ny_exc, len_app, len_lst, len_tup, tuple_lst, r_app, append_app, add_tup, add_lst, sub_tup, sub_lst, slice_tup, slice_lst, at_0, at_1, at_2, at_3, at_m1, rg1_ok, rg2_ok, Int.toNat_natCast, int_int, abs_int, min_int, max_int, slice_scr, wipeP, e, b_str, cut_m1, num_drop]
      rfl) (by rw [ln]; decide) (by
    intro x hx
    simp only [List.mem_cons, List.not_mem_nil, or_false] at hx
    rcases hx with rfl | rfl | rfl | rfl | rfl <;> rfl)
theorem pures_sv : ∀ l : List (List Nat), PV.pures (l.map sv) = true
  | [] => rfl
  | _ :: r => pures_sv r
theorem law_leaves (k : Nat) (ws : List (List Nat)) (hw : ∀ w ∈ ws, w.length ≤ 100000 ∧ ∀ c ∈ w, c ∈ SG) (hn : ws.length ≤ 1000000) (h : PHeap) : Fx.run C (k + 2) 9002 [.tup (ws.map sv)] h = .ok (.lst ((leafs 0 1 ws).map sv)) h := by
  rw [run_succ (F := f__law_leaves) rfl (k + 1) _ _ rfl]
  unfold f__law_leaves
  have ln := line24
  simp (disch := first | assumption | omega | (simp only [List.length_append, List.length_cons, List.length_nil, List.length_take, List.length_drop, List.length_replicate, List.length_map]; omega)) only [startP, List.map_cons, List.map_nil, List.length_cons, List.length_nil, List.replicate_succ, List.replicate_zero, List.cons_append, List.nil_append, Nat.add_zero, Nat.zero_add, Nat.reduceAdd, Nat.reduceSub, Nat.reduceLT, Nat.reduceLeDiff, List.getElem?_cons_succ, List.getElem?_cons_zero, List.set_cons_succ, List.set_cons_zero, bind_ok, bind_exc, calm_ok, lift_some,
      x_var, x_int, x_lit, x_bl, x_non, x_bin, x_neg, x_cmp, x_chain, x_bool, x_not, x_ite, x_call, x_bcall, x_isi, x_meth, x_tup, x_listT, x_listF, x_sub, x_slice, x_nil, x_cons, x_onone, x_osome, x_tnil, x_tcons, x_b1, x_and, x_or, x_seq, x_range1, x_range2, x_enum,
      s_nil, s_cons, s_expr, s_ret, s_retN, s_asg, s_par, s_aug, s_if, s_raise, s_try, s_pass, s_brk, s_cont, h_nil, h_cons, tru_bl, b_add, b_sub, b_addI, b_mulI, b_mod, b_fdiv, a_addI, a_subI, c_eq, c_ne, c_lt, c_le, c_gt, c_ge, c_in, c_nin, c_isN, c_isnotN, eq_int, bindN, bindTp, setA0, setA1, omap, Option.map_some, Option.map_none, add_sv, aug_sv, len_sv, sub_sv, cut_sv, find_sv, find3_sv, index_sv, in_sv, r_index, r_rjust, r_find, r_find3, r_join, if_true, bx, nx, nxc, tx, ny_next, ny_cont, ny_brk, ny_ret, ny_exc, len_app, len_lst, len_tup, tuple_lst, r_app, append_app, add_tup, add_lst, sub_tup, sub_lst, slice_tup, slice_lst, at_0, at_1, at_2, at_3, at_m1, rg1_ok, rg2_ok, Int.toNat_natCast, int_int, abs_int, min_int, max_int, slice_scr, s_for, List.length_map]
  generalize hq : forL _ _ _ _ _ _ = q
  obtain ⟨σ', h', rfl, e1, e2⟩ := for_q hq (fun i σ g => g = h ++ [.lst ((leafs 0 1 (ws.take i)).map sv)] ∧ ∃ y z, σ = [some (.tup (ws.map sv)), some (.ref h.length), some (.int (ahd 0 1 (ws.take i) : Nat)), y, z, none]) (fun _ _ _ _ => rfl) ⟨by simp [leafs], none, none, by simp [ahd]⟩ (by
    rintro i x σ g hx ⟨rfl, y, z, rfl⟩
    obtain ⟨rfl, hi⟩ := rangeL_at _ _ _ hx
    have h2 : ws[i]? = some ws[i] := List.getElem?_eq_getElem hi
    have mw := hw ws[i] (List.getElem_mem hi)
    generalize ws[i] = w at h2 mw
    have h3 : (ws.map sv)[i]? = some (sv w) := by rw [List.getElem?_map, h2]; rfl
    have et : ws.take (i + 1) = ws.take i ++ [w] := by rw [List.take_add_one, h2]; rfl
    have el : (ws.take i).length = i := by simp; omega
    have e3 : leafs 0 1 (ws.take (i + 1)) = leafs 0 1 (ws.take i) ++ [leafBy (ahd 0 1 (ws.take i)) (i + 1) w] := by
      rw [et, leafs_app, el, show 1 + i = i + 1 by omega]; rfl
    have e4 : ahd 0 1 (ws.take (i + 1)) = own (ahd 0 1 (ws.take i)) (i + 1) w := by
      rw [et, ahd_app, el, show 1 + i = i + 1 by omega]; rfl
    have e6 : ((i : Int) + 1) = ((i + 1 : Nat) : Int) := by omega
    have n9 := num_len (show i + 1 < 1000000000 by omega)
    have hd : TL.numL (i + 1) ++ [32] ++ w ++ [32] = headBy (i + 1) w := rfl
    have hlen : (headBy (i + 1) w).length ≤ 100011 := by unfold headBy; simp only [List.length_append, List.length_cons, List.length_nil]; omega
    have ls := law_sum k (ahd 0 1 (ws.take i)) (headBy (i + 1) w) (by omega) (head_SG mw.2)
    have ow : sumBy (ahd 0 1 (ws.take i)) (headBy (i + 1) w) = own (ahd 0 1 (ws.take i)) (i + 1) w := rfl
    have ol := own_lt (ahd 0 1 (ws.take i)) (i + 1) w
    rw [ow] at ls
    have p5 := pad5_len ol
    have cd := comp_digs (k + 1) (own (ahd 0 1 (ws.take i)) (i + 1) w) ol
    have jd := fun g => join_digs g ol
    have ll : ∀ (us : List (List Nat)) (a n : Nat), (leafs a n us).length = us.length := by
      intro us
      induction us with
      | nil => intro a n; rfl
      | cons u r ih => intro a n; show (leafs _ _ r).length + 1 = _; rw [ih]; rfl
    have l8 : ((leafs 0 1 (ws.take i)).map sv).length < 16777216 := by rw [List.length_map, ll]; omega
    simp (disch := first | assumption | omega | (simp only [List.length_append, List.length_cons, List.length_nil, List.length_take, List.length_drop, List.length_replicate, List.length_map]; omega)) only [startP, List.map_cons, List.map_nil, List.length_cons, List.length_nil, List.replicate_succ, List.replicate_zero, List.cons_append, List.nil_append, Nat.add_zero, Nat.zero_add, Nat.reduceAdd, Nat.reduceSub, Nat.reduceLT, Nat.reduceLeDiff, List.getElem?_cons_succ, List.getElem?_cons_zero, List.set_cons_succ, List.set_cons_zero, bind_ok, bind_exc, calm_ok, lift_some,
      x_var, x_int, x_lit, x_bl, x_non, x_bin, x_neg, x_cmp, x_chain, x_bool, x_not, x_ite, x_call, x_bcall, x_isi, x_meth, x_tup, x_listT, x_listF, x_sub, x_slice, x_nil, x_cons, x_onone, x_osome, x_tnil, x_tcons, x_b1, x_and, x_or, x_seq, x_range1, x_range2, x_enum,
      s_nil, s_cons, s_expr, s_ret, s_retN, s_asg, s_par, s_aug, s_if, s_raise, s_try, s_pass, s_brk, s_cont, h_nil, h_cons, tru_bl, b_add, b_sub, b_addI, b_mulI, b_mod, b_fdiv, a_addI, a_subI, c_eq, c_ne, c_lt, c_le, c_gt, c_ge, c_in, c_nin, c_isN, c_isnotN, eq_int, bindN, bindTp, setA0, setA1, omap, Option.map_some, Option.map_none, add_sv, aug_sv, len_sv, sub_sv, cut_sv, find_sv, find3_sv, index_sv, in_sv, r_index, r_rjust, r_find, r_find3, r_join, if_true, bx, nx, nxc, tx, ny_next, ny_cont, ny_brk, ny_ret, ny_exc, len_app, len_lst, len_tup, tuple_lst, r_app, append_app, add_tup, add_lst, sub_tup, sub_lst, slice_tup, slice_lst, at_0, at_1, at_2, at_3, at_m1, rg1_ok, rg2_ok, Int.toNat_natCast, int_int, abs_int, min_int, max_int, slice_scr, e6, b_str, atI_nat, h3, l_sp, hd, ls, l_hash, l_nil, l_nl, cd, jd]
    exact ⟨by rw [e3, List.map_append]; rfl, _, _, by rw [e4]⟩)
  subst e1
  obtain ⟨y, z, rfl⟩ := e2
  rw [rangeL_n, List.take_of_length_le (Nat.le_refl _)]
  simp (disch := first | assumption | omega | (simp only [List.length_append, List.length_cons, List.length_nil, List.length_take, List.length_drop, List.length_replicate, List.length_map]; omega)) only [startP, List.map_cons, List.map_nil, List.length_cons, List.length_nil, List.replicate_succ, List.replicate_zero, List.cons_append, List.nil_append, Nat.add_zero, Nat.zero_add, Nat.reduceAdd, Nat.reduceSub, Nat.reduceLT, Nat.reduceLeDiff, List.getElem?_cons_succ, List.getElem?_cons_zero, List.set_cons_succ, List.set_cons_zero, bind_ok, bind_exc, calm_ok, lift_some,
      x_var, x_int, x_lit, x_bl, x_non, x_bin, x_neg, x_cmp, x_chain, x_bool, x_not, x_ite, x_call, x_bcall, x_isi, x_meth, x_tup, x_listT, x_listF, x_sub, x_slice, x_nil, x_cons, x_onone, x_osome, x_tnil, x_tcons, x_b1, x_and, x_or, x_seq, x_range1, x_range2, x_enum,
      s_nil, s_cons, s_expr, s_ret, s_retN, s_asg, s_par, s_aug, s_if, s_raise, s_try, s_pass, s_brk, s_cont, h_nil, h_cons, tru_bl, b_add, b_sub, b_addI, b_mulI, b_mod, b_fdiv, a_addI, a_subI, c_eq, c_ne, c_lt, c_le, c_gt, c_ge, c_in, c_nin, c_isN, c_isnotN, eq_int, bindN, bindTp, setA0, setA1, omap, Option.map_some, Option.map_none, add_sv, aug_sv, len_sv, sub_sv, cut_sv, find_sv, find3_sv, index_sv, in_sv, r_index, r_rjust, r_find, r_find3, r_join, if_true, bx, nx, nxc, tx, ny_next, ny_cont, ny_brk, ny_ret, ny_exc, len_app, len_lst, len_tup, tuple_lst, r_app, append_app, add_tup, add_lst, sub_tup, sub_lst, slice_tup, slice_lst, at_0, at_1, at_2, at_3, at_m1, rg1_ok, rg2_ok, Int.toNat_natCast, int_int, abs_int, min_int, max_int, slice_scr]
  exact exit_list (pures_sv _)
/-! _law_text -/
def TS : List Nat := L "abz019()+-*<=,:; "
theorem TS_SG : ∀ c ∈ TS, c ∈ SG := by decide
/-- 120 drawn numbers -/
def Drawn (ds : List Int) : Prop := ds.length = 120 ∧ ∀ d ∈ ds, 0 ≤ d ∧ d < 65521
theorem drawn_at {ds : List Int} (D : Drawn ds) (i : Int) : ∃ d : Nat, atI (ds.map PV.int) (i % 120) = some (.int (d : Nat)) ∧ d < 65521 := by
  obtain ⟨n, e⟩ : ∃ n : Nat, i % 120 = (n : Int) := ⟨(i % 120).toNat, by omega⟩
  have hn : n < 120 := by omega
  rw [e, atI_nat, List.getElem?_map]
  have h : n < ds.length := by rw [D.1]; exact hn
  rw [List.getElem?_eq_getElem h]
  have := D.2 _ (List.getElem_mem h)
  exact ⟨(ds[n]).toNat, by show some (PV.int ds[n]) = _; congr 2; omega, by omega⟩
theorem law_text (k : Nat) {ds : List Int} (D : Drawn ds) (at_ : Int) : ∃ w : List Nat, (∀ h, Fx.run C (k + 1) 9003 [.lst (ds.map .int), .int at_] h = .ok (sv w) h) ∧ 1 ≤ w.length ∧ w.length ≤ 30 ∧ ∀ c ∈ w, c ∈ TS := by
  have ln := line24
  obtain ⟨d0, a0, b0⟩ := drawn_at D at_
  have dl : (((ds.map PV.int).length : Nat) : Int) = 120 := by rw [List.length_map, D.1]; rfl
  have hT : L "abz019()+-*<=,:; " = TS := rfl
  have lT : TS.length = 17 := rfl
  let f : Int → List Nat := fun j => match atI (ds.map PV.int) ((at_ + j) % 120) with
    | some (.int d) => match TS[(d / (1 + j) % 17).toNat]? with
      | some c => [c]
      | none => []
    | _ => []
  have hf : ∀ j : Nat, ∃ d : Nat, ∃ c, atI (ds.map PV.int) ((at_ + j) % 120) = some (.int (d : Nat)) ∧ TS[((d : Int) / (1 + (j : Int)) % 17).toNat]? = some c ∧ f j = [c] ∧ c ∈ TS := by
    intro j
    obtain ⟨d, e1, e2⟩ := drawn_at D (at_ + j)
    have hb : ((d : Int) / (1 + (j : Int)) % 17).toNat < TS.length := by rw [lT]; omega
    refine ⟨d, TS[((d : Int) / (1 + (j : Int)) % 17).toNat], e1, List.getElem?_eq_getElem hb, ?_, List.getElem_mem hb⟩
    show (match atI (ds.map PV.int) ((at_ + j) % 120) with
      | some (.int d) => match TS[(d / (1 + (j : Int)) % 17).toNat]? with
        | some c => [c]
        | none => []
      | _ => []) = _
    rw [e1]
    simp only [List.getElem?_eq_getElem hb]
  have ones : ∀ l : List Nat, ((l.map fun (j : Nat) => f j).flatten).length = l.length ∧ ∀ c ∈ (l.map fun (j : Nat) => f j).flatten, c ∈ TS := by
    intro l
    induction l with
    | nil => exact ⟨rfl, fun c m => nomatch m⟩
    | cons j r ih =>
      obtain ⟨d, c, _, _, e3, e4⟩ := hf j
      rw [List.map_cons, List.flatten_cons, e3]
      refine ⟨by simp [ih.1], fun x m => ?_⟩
      rcases List.mem_append.mp m with m | m
      · rw [List.mem_singleton.mp m]; exact e4
      · exact ih.2 x m
  obtain ⟨o1, o2⟩ := ones (List.range (1 + d0 % 30))
  rw [List.length_range] at o1
  refine ⟨((List.range (1 + d0 % 30)).map fun (j : Nat) => f j).flatten, fun h => ?_, by rw [o1]; omega, by rw [o1]; omega, o2⟩
  rw [run_succ (F := f__law_text) rfl k _ _ rfl]
  unfold f__law_text
  have c := ev_comp (cfg := C) (call := Fx.run C k) (elt := (.sub (.var 2) (.bin .Mod (.bin .FloorDiv (.bcall .int (.cons (.sub (.var 0) (.bin .Mod (.bin .Add (.var 1) (.var 4)) (.bcall .len (.cons (.var 0) .nil)))) .nil)) (.bin .Add (.int 1) (.var 4))) (.int 17)))) (tg := .name 4) (it := (.range1 (.bin .Add (.int 1) (.bin .Mod (.var 3) (.int 30))))) (own := [((PySem.Str.ofString "k"), 4)])
    (σ := [some (.lst (ds.map .int)), some (.int at_), some (sv TS), some (.int (d0 : Nat)), none]) (h := h) (items := rangeL 0 (1 + d0 % 30)) (w := none) (fun v => match v with
      | .int j => sv (f j)
      | v => v) (by
      have e : (1 + (d0 : Int) % 30).toNat = 1 + d0 % 30 := by omega
      simp (disch := first | assumption | omega | (simp only [List.length_append, List.length_cons, List.length_nil, List.length_take, List.length_drop, List.length_replicate, List.length_map]; omega)) only [startP, List.map_cons, List.map_nil, List.length_cons, List.length_nil, List.replicate_succ, List.replicate_zero, List.cons_append, List.nil_append, Nat.add_zero, Nat.zero_add, Nat.reduceAdd, Nat.reduceSub, Nat.reduceLT, Nat.reduceLeDiff, List.getElem?_cons_succ, List.getElem?_cons_zero, List.set_cons_succ, List.set_cons_zero, bind_ok, bind_exc, calm_ok, lift_some,
      x_var, x_int, x_lit, x_bl, x_non, x_bin, x_neg, x_cmp, x_chain, x_bool, x_not, x_ite, x_call, x_bcall, x_isi, x_meth, x_tup, x_listT, x_listF, x_sub, x_slice, x_nil, x_cons, x_onone, x_osome, x_tnil, x_tcons, x_b1, x_and, x_or, x_seq, x_range1, x_range2, x_enum,
      s_nil, s_cons, s_expr, s_ret, s_retN, s_asg, s_par, s_aug, s_if, s_raise, s_try, s_pass, s_brk, s_cont, h_nil, h_cons, tru_bl, b_add, b_sub, b_addI, b_mulI, b_mod, b_fdiv, a_addI, a_subI, c_eq, c_ne, c_lt, c_le, c_gt, c_ge, c_in, c_nin, c_isN, c_isnotN, eq_int, bindN, bindTp, setA0, setA1, omap, Option.map_some, Option.map_none, add_sv, aug_sv, len_sv, sub_sv, cut_sv, find_sv, find3_sv, index_sv, in_sv, r_index, r_rjust, r_find, r_find3, r_join, if_true, bx, nx, nxc, tx, ny_next, ny_cont, ny_brk, ny_ret, ny_exc, len_app, len_lst, len_tup, tuple_lst, r_app, append_app, add_tup, add_lst, sub_tup, sub_lst, slice_tup, slice_lst, at_0, at_1, at_2, at_3, at_m1, rg1_ok, rg2_ok, Int.toNat_natCast, int_int, abs_int, min_int, max_int, slice_scr, e]) (fun _ => rfl) (by
      intro x hx acc
      obtain ⟨j, hj⟩ := List.mem_iff_getElem?.mp hx
      obtain ⟨rfl, hj⟩ := rangeL_at _ _ _ hj
      obtain ⟨d, c, e1, e2, e3, _⟩ := hf j
      refine ⟨_, rfl, ?_⟩
      have e4 : ((d : Int) / (1 + (j : Int)) % 17) = ((((d : Int) / (1 + (j : Int)) % 17).toNat : Nat) : Int) := by omega
      simp (disch := first | assumption | omega | (simp only [List.length_append, List.length_cons, List.length_nil, List.length_take, List.length_drop, List.length_replicate, List.length_map]; omega)) only [startP, List.map_cons, List.map_nil, List.length_cons, List.length_nil, List.replicate_succ, List.replicate_zero, List.cons_append, List.nil_append, Nat.add_zero, Nat.zero_add, Nat.reduceAdd, Nat.reduceSub, Nat.reduceLT, Nat.reduceLeDiff, List.getElem?_cons_succ, List.getElem?_cons_zero, List.set_cons_succ, List.set_cons_zero, bind_ok, bind_exc, calm_ok, lift_some,
      x_var, x_int, x_lit, x_bl, x_non, x_bin, x_neg, x_cmp, x_chain, x_bool, x_not, x_ite, x_call, x_bcall, x_isi, x_meth, x_tup, x_listT, x_listF, x_sub, x_slice, x_nil, x_cons, x_onone, x_osome, x_tnil, x_tcons, x_b1, x_and, x_or, x_seq, x_range1, x_range2, x_enum,
      s_nil, s_cons, s_expr, s_ret, s_retN, s_asg, s_par, s_aug, s_if, s_raise, s_try, s_pass, s_brk, s_cont, h_nil, h_cons, tru_bl, b_add, b_sub, b_addI, b_mulI, b_mod, b_fdiv, a_addI, a_subI, c_eq, c_ne, c_lt, c_le, c_gt, c_ge, c_in, c_nin, c_isN, c_isnotN, eq_int, bindN, bindTp, setA0, setA1, omap, Option.map_some, Option.map_none, add_sv, aug_sv, len_sv, sub_sv, cut_sv, find_sv, find3_sv, index_sv, in_sv, r_index, r_rjust, r_find, r_find3, r_join, if_true, bx, nx, nxc, tx, ny_next, ny_cont, ny_brk, ny_ret, ny_exc, len_app, len_lst, len_tup, tuple_lst, r_app, append_app, add_tup, add_lst, sub_tup, sub_lst, slice_tup, slice_lst, at_0, at_1, at_2, at_3, at_m1, rg1_ok, rg2_ok, Int.toNat_natCast, int_int, abs_int, min_int, max_int, slice_scr, wipeP, dl, e1]
      rw [e4]
      simp (disch := first | assumption | omega | (simp only [List.length_append, List.length_cons, List.length_nil, List.length_take, List.length_drop, List.length_replicate, List.length_map]; omega)) only [startP, List.map_cons, List.map_nil, List.length_cons, List.length_nil, List.replicate_succ, List.replicate_zero, List.cons_append, List.nil_append, Nat.add_zero, Nat.zero_add, Nat.reduceAdd, Nat.reduceSub, Nat.reduceLT, Nat.reduceLeDiff, List.getElem?_cons_succ, List.getElem?_cons_zero, List.set_cons_succ, List.set_cons_zero, bind_ok, bind_exc, calm_ok, lift_some,
      x_var, x_int, x_lit, x_bl, x_non, x_bin, x_neg, x_cmp, x_chain, x_bool, x_not, x_ite, x_call, x_bcall, x_isi, x_meth, x_tup, x_listT, x_listF, x_sub, x_slice, x_nil, x_cons, x_onone, x_osome, x_tnil, x_tcons, x_b1, x_and, x_or, x_seq, x_range1, x_range2, x_enum,
      s_nil, s_cons, s_expr, s_ret, s_retN, s_asg, s_par, s_aug, s_if, s_raise, s_try, s_pass, s_brk, s_cont, h_nil, h_cons, tru_bl, b_add, b_sub, b_addI, b_mulI, b_mod, b_fdiv, a_addI, a_subI, c_eq, c_ne, c_lt, c_le, c_gt, c_ge, c_in, c_nin, c_isN, c_isnotN, eq_int, bindN, bindTp, setA0, setA1, omap, Option.map_some, Option.map_none, add_sv, aug_sv, len_sv, sub_sv, cut_sv, find_sv, find3_sv, index_sv, in_sv, r_index, r_rjust, r_find, r_find3, r_join, if_true, bx, nx, nxc, tx, ny_next, ny_cont, ny_brk, ny_ret, ny_exc, len_app, len_lst, len_tup, tuple_lst, r_app, append_app, add_tup, add_lst, sub_tup, sub_lst, slice_tup, slice_lst, at_0, at_1, at_2, at_3, at_m1, rg1_ok, rg2_ok, Int.toNat_natCast, int_int, abs_int, min_int, max_int, slice_scr, atI_nat, e2]
      rw [e3]) (by rw [ln, rangeL_n]; omega) (by
      intro x hx
      obtain ⟨j, hj⟩ := List.mem_iff_getElem?.mp hx
      obtain ⟨rfl, hj⟩ := rangeL_at _ _ _ hj
      rfl)
  have em : (rangeL 0 (1 + d0 % 30)).map (fun v => match v with
      | PV.int j => sv (f j)
      | v => v) = ((List.range (1 + d0 % 30)).map fun (j : Nat) => f j).map sv := by
    unfold rangeL
    rw [List.map_map, List.map_map]
    refine List.map_congr_left fun j _ => ?_
    show sv (f (0 + (j : Int))) = sv (f j)
    rw [Int.zero_add]
  rw [em] at c
  have j := join_sv h (.lst (((List.range (1 + d0 % 30)).map fun (j : Nat) => f j).map sv)) _ rfl (by rw [o1]; omega)
  simp (disch := first | assumption | omega | (simp only [List.length_append, List.length_cons, List.length_nil, List.length_take, List.length_drop, List.length_replicate, List.length_map]; omega)) only [startP, List.map_cons, List.map_nil, List.length_cons, List.length_nil, List.replicate_succ, List.replicate_zero, List.cons_append, List.nil_append, Nat.add_zero, Nat.zero_add, Nat.reduceAdd, Nat.reduceSub, Nat.reduceLT, Nat.reduceLeDiff, List.getElem?_cons_succ, List.getElem?_cons_zero, List.set_cons_succ, List.set_cons_zero, bind_ok, bind_exc, calm_ok, lift_some,
      x_var, x_int, x_lit, x_bl, x_non, x_bin, x_neg, x_cmp, x_chain, x_bool, x_not, x_ite, x_call, x_bcall, x_isi, x_meth, x_tup, x_listT, x_listF, x_sub, x_slice, x_nil, x_cons, x_onone, x_osome, x_tnil, x_tcons, x_b1, x_and, x_or, x_seq, x_range1, x_range2, x_enum,
      s_nil, s_cons, s_expr, s_ret, s_retN, s_asg, s_par, s_aug, s_if, s_raise, s_try, s_pass, s_brk, s_cont, h_nil, h_cons, tru_bl, b_add, b_sub, b_addI, b_mulI, b_mod, b_fdiv, a_addI, a_subI, c_eq, c_ne, c_lt, c_le, c_gt, c_ge, c_in, c_nin, c_isN, c_isnotN, eq_int, bindN, bindTp, setA0, setA1, omap, Option.map_some, Option.map_none, add_sv, aug_sv, len_sv, sub_sv, cut_sv, find_sv, find3_sv, index_sv, in_sv, r_index, r_rjust, r_find, r_find3, r_join, if_true, bx, nx, nxc, tx, ny_next, ny_cont, ny_brk, ny_ret, ny_exc, len_app, len_lst, len_tup, tuple_lst, r_app, append_app, add_tup, add_lst, sub_tup, sub_lst, slice_tup, slice_lst, at_0, at_1, at_2, at_3, at_m1, rg1_ok, rg2_ok, Int.toNat_natCast, int_int, abs_int, min_int, max_int, slice_scr, hT, dl, a0, l_nil, c, j]
  exact exit_ret0 rfl
/-! _law_draws -/
theorem b_pow (h : PHeap) : binV .Pow h (.int 10) (.int 18) = some (.int 1000000000000000000) := by
  show (if (0 : Int) ≤ 18 ∧ (18 : Int) ≤ 1000000 ∧ (10 : Int).natAbs < 2 ^ 64 then some (PV.int (10 ^ (18 : Int).toNat)) else none) = _
  rw [if_pos (by decide)]; rfl
theorem slice_app (h : PHeap) (acc : List PV) (a b : Option Int) : sliceV (h ++ [.lst acc]) (.ref h.length) a b = some (.lst (cutP acc a b)) := by
  show (asL (h ++ [Ob.lst acc]) (.ref h.length)).map _ = _
  have : (h ++ [Ob.lst acc])[h.length]? = some (.lst acc) := by simp
  unfold asL
  simp only [this]; rfl
theorem pures_int : ∀ l : List Int, PV.pures (l.map .int) = true
  | [] => rfl
  | _ :: r => pures_int r
def Dr (ds : List Int) : Prop := ∀ d ∈ ds, 0 ≤ d ∧ d < 65521
theorem Dr.snoc {ds : List Int} (D : Dr ds) {x : Int} (h : 0 ≤ x ∧ x < 65521) : Dr (ds ++ [x]) := by
  intro d m
  rcases List.mem_append.mp m with m | m
  · exact D d m
  · rw [List.mem_singleton.mp m]; exact h
theorem snocM (ds : List Int) (x : Int) : ds.map PV.int ++ [.int x] = (ds ++ [x]).map PV.int := by simp
theorem law_draws (k : Nat) (ns : List Int) (hn : ns.length ≤ 63) (h : PHeap) : ∃ ds, Drawn ds ∧ Fx.run C (k + 1) 9000 [.scr ns, .int 120] h = .ok (.lst (ds.map .int)) h := by
  rw [run_succ (F := f__law_draws) rfl k _ _ rfl]
  unfold f__law_draws
  have ln := line24
  simp (disch := first | assumption | omega | (simp only [List.length_append, List.length_cons, List.length_nil, List.length_take, List.length_drop, List.length_replicate, List.length_map]; omega)) only [startP, List.map_cons, List.map_nil, List.length_cons, List.length_nil, List.replicate_succ, List.replicate_zero, List.cons_append, List.nil_append, Nat.add_zero, Nat.zero_add, Nat.reduceAdd, Nat.reduceSub, Nat.reduceLT, Nat.reduceLeDiff, List.getElem?_cons_succ, List.getElem?_cons_zero, List.set_cons_succ, List.set_cons_zero, bind_ok, bind_exc, calm_ok, lift_some,
      x_var, x_int, x_lit, x_bl, x_non, x_bin, x_neg, x_cmp, x_chain, x_bool, x_not, x_ite, x_call, x_bcall, x_isi, x_meth, x_tup, x_listT, x_listF, x_sub, x_slice, x_nil, x_cons, x_onone, x_osome, x_tnil, x_tcons, x_b1, x_and, x_or, x_seq, x_range1, x_range2, x_enum,
      s_nil, s_cons, s_expr, s_ret, s_retN, s_asg, s_par, s_aug, s_if, s_raise, s_try, s_pass, s_brk, s_cont, h_nil, h_cons, tru_bl, b_add, b_sub, b_addI, b_mulI, b_mod, b_fdiv, a_addI, a_subI, c_eq, c_ne, c_lt, c_le, c_gt, c_ge, c_in, c_nin, c_isN, c_isnotN, eq_int, bindN, bindTp, setA0, setA1, omap, Option.map_some, Option.map_none, add_sv, aug_sv, len_sv, sub_sv, cut_sv, find_sv, find3_sv, index_sv, in_sv, r_index, r_rjust, r_find, r_find3, r_join, if_true, bx, nx, nxc, tx, ny_next, ny_cont, ny_brk, ny_ret, ny_exc, len_app, len_lst, len_tup, tuple_lst, r_app, append_app, add_tup, add_lst, sub_tup, sub_lst, slice_tup, slice_lst, at_0, at_1, at_2, at_3, at_m1, rg1_ok, rg2_ok, Int.toNat_natCast, int_int, abs_int, min_int, max_int, slice_scr, s_for, seqL]
  generalize hq : forL _ _ _ _ _ _ = q
  obtain ⟨σ', h', rfl, ds, seed, y, z, t, e1, e2, e3, e4⟩ := for_q hq (fun i σ g => ∃ ds seed y z t, σ = [some (.scr ns), some (.int 120), some (.ref h.length), some (.int seed), y, z, t] ∧ g = h ++ [.lst (ds.map .int)] ∧ Dr ds ∧ ds.length ≤ 60 * i) (fun _ _ _ _ => rfl) ⟨[], 7, none, none, none, rfl, rfl, (fun d m => (nomatch m)), Nat.zero_le _⟩ (by
    rintro i x σ g hx ⟨ds, seed, y, z, t, rfl, rfl, D, hl⟩
    rw [List.getElem?_map] at hx
    obtain ⟨cell, h1, rfl⟩ := Option.map_eq_some_iff.mp hx
    have hi : i < 63 := by
      have := (List.getElem?_eq_some_iff.mp h1).1
      have q := cut_to ns 63
      have q' : cutP ns none (some 63) = ns.take 63 := q
      rw [q', List.length_take] at this
      omega
    obtain ⟨m, em⟩ : ∃ m : Int, (if cell < 0 then -cell else cell) = m := ⟨_, rfl⟩
    have m0 : 0 ≤ m := by rw [← em]; split <;> omega
    simp (disch := first | assumption | omega | (simp only [List.length_append, List.length_cons, List.length_nil, List.length_take, List.length_drop, List.length_replicate, List.length_map]; omega)) only [startP, List.map_cons, List.map_nil, List.length_cons, List.length_nil, List.replicate_succ, List.replicate_zero, List.cons_append, List.nil_append, Nat.add_zero, Nat.zero_add, Nat.reduceAdd, Nat.reduceSub, Nat.reduceLT, Nat.reduceLeDiff, List.getElem?_cons_succ, List.getElem?_cons_zero, List.set_cons_succ, List.set_cons_zero, bind_ok, bind_exc, calm_ok, lift_some,
      x_var, x_int, x_lit, x_bl, x_non, x_bin, x_neg, x_cmp, x_chain, x_bool, x_not, x_ite, x_call, x_bcall, x_isi, x_meth, x_tup, x_listT, x_listF, x_sub, x_slice, x_nil, x_cons, x_onone, x_osome, x_tnil, x_tcons, x_b1, x_and, x_or, x_seq, x_range1, x_range2, x_enum,
      s_nil, s_cons, s_expr, s_ret, s_retN, s_asg, s_par, s_aug, s_if, s_raise, s_try, s_pass, s_brk, s_cont, h_nil, h_cons, tru_bl, b_add, b_sub, b_addI, b_mulI, b_mod, b_fdiv, a_addI, a_subI, c_eq, c_ne, c_lt, c_le, c_gt, c_ge, c_in, c_nin, c_isN, c_isnotN, eq_int, bindN, bindTp, setA0, setA1, omap, Option.map_some, Option.map_none, add_sv, aug_sv, len_sv, sub_sv, cut_sv, find_sv, find3_sv, index_sv, in_sv, r_index, r_rjust, r_find, r_find3, r_join, if_true, bx, nx, nxc, tx, ny_next, ny_cont, ny_brk, ny_ret, ny_exc, len_app, len_lst, len_tup, tuple_lst, r_app, append_app, add_tup, add_lst, sub_tup, sub_lst, slice_tup, slice_lst, at_0, at_1, at_2, at_3, at_m1, rg1_ok, rg2_ok, Int.toNat_natCast, int_int, abs_int, min_int, max_int, slice_scr, em, b_pow]
    by_cases hb : (1000000000000000000 : Int) ≤ m
    · simp (disch := first | assumption | omega | (simp only [List.length_append, List.length_cons, List.length_nil, List.length_take, List.length_drop, List.length_replicate, List.length_map]; omega)) only [startP, List.map_cons, List.map_nil, List.length_cons, List.length_nil, List.replicate_succ, List.replicate_zero, List.cons_append, List.nil_append, Nat.add_zero, Nat.zero_add, Nat.reduceAdd, Nat.reduceSub, Nat.reduceLT, Nat.reduceLeDiff, List.getElem?_cons_succ, List.getElem?_cons_zero, List.set_cons_succ, List.set_cons_zero, bind_ok, bind_exc, calm_ok, lift_some,
      x_var, x_int, x_lit, x_bl, x_non, x_bin, x_neg, x_cmp, x_chain, x_bool, x_not, x_ite, x_call, x_bcall, x_isi, x_meth, x_tup, x_listT, x_listF, x_sub, x_slice, x_nil, x_cons, x_onone, x_osome, x_tnil, x_tcons, x_b1, x_and, x_or, x_seq, x_range1, x_range2, x_enum,
      s_nil, s_cons, s_expr, s_ret, s_retN, s_asg, s_par, s_aug, s_if, s_raise, s_try, s_pass, s_brk, s_cont, h_nil, h_cons, tru_bl, b_add, b_sub, b_addI, b_mulI, b_mod, b_fdiv, a_addI, a_subI, c_eq, c_ne, c_lt, c_le, c_gt, c_ge, c_in, c_nin, c_isN, c_isnotN, eq_int, bindN, bindTp, setA0, setA1, omap, Option.map_some, Option.map_none, add_sv, aug_sv, len_sv, sub_sv, cut_sv, find_sv, find3_sv, index_sv, in_sv, r_index, r_rjust, r_find, r_find3, r_join, if_true, bx, nx, nxc, tx, ny_next, ny_cont, ny_brk, ny_ret, ny_exc, len_app, len_lst, len_tup, tuple_lst, r_app, append_app, add_tup, add_lst, sub_tup, sub_lst, slice_tup, slice_lst, at_0, at_1, at_2, at_3, at_m1, rg1_ok, rg2_ok, Int.toNat_natCast, int_int, abs_int, min_int, max_int, slice_scr, decide_eq_true hb, s_for]
      generalize hq2 : forL _ _ _ _ _ _ = q2
      obtain ⟨σ2, h2, rfl, ds2, m2, t2, f1, f2, f3, f4⟩ := for_q hq2 (fun j σ g => ∃ ds m t, σ = [some (.scr ns), some (.int 120), some (.ref h.length), some (.int ((seed * 48271 + (if cell < 0 then -cell else cell) + 11) % 2147483647)), some (.int cell), some (.int m), t] ∧ g = h ++ [.lst (ds.map .int)] ∧ Dr ds ∧ ds.length ≤ 60 * i + j) (fun _ _ _ _ => rfl) ⟨ds, m, t, by rw [em], rfl, D, hl⟩ (by
        rintro j x σ g hx ⟨ds, m, t, rfl, rfl, D, hl⟩
        obtain ⟨rfl, hj⟩ := rangeL_at _ _ _ hx
        have hj : j < 60 := hj
        by_cases hp : (0 : Int) < m
        · have l8 : (ds.map PV.int).length < 16777216 := by rw [List.length_map]; omega
          simp (disch := first | assumption | omega | (simp only [List.length_append, List.length_cons, List.length_nil, List.length_take, List.length_drop, List.length_replicate, List.length_map]; omega)) only [startP, List.map_cons, List.map_nil, List.length_cons, List.length_nil, List.replicate_succ, List.replicate_zero, List.cons_append, List.nil_append, Nat.add_zero, Nat.zero_add, Nat.reduceAdd, Nat.reduceSub, Nat.reduceLT, Nat.reduceLeDiff, List.getElem?_cons_succ, List.getElem?_cons_zero, List.set_cons_succ, List.set_cons_zero, bind_ok, bind_exc, calm_ok, lift_some,
      x_var, x_int, x_lit, x_bl, x_non, x_bin, x_neg, x_cmp, x_chain, x_bool, x_not, x_ite, x_call, x_bcall, x_isi, x_meth, x_tup, x_listT, x_listF, x_sub, x_slice, x_nil, x_cons, x_onone, x_osome, x_tnil, x_tcons, x_b1, x_and, x_or, x_seq, x_range1, x_range2, x_enum,
      s_nil, s_cons, s_expr, s_ret, s_retN, s_asg, s_par, s_aug, s_if, s_raise, s_try, s_pass, s_brk, s_cont, h_nil, h_cons, tru_bl, b_add, b_sub, b_addI, b_mulI, b_mod, b_fdiv, a_addI, a_subI, c_eq, c_ne, c_lt, c_le, c_gt, c_ge, c_in, c_nin, c_isN, c_isnotN, eq_int, bindN, bindTp, setA0, setA1, omap, Option.map_some, Option.map_none, add_sv, aug_sv, len_sv, sub_sv, cut_sv, find_sv, find3_sv, index_sv, in_sv, r_index, r_rjust, r_find, r_find3, r_join, if_true, bx, nx, nxc, tx, ny_next, ny_cont, ny_brk, ny_ret, ny_exc, len_app, len_lst, len_tup, tuple_lst, r_app, append_app, add_tup, add_lst, sub_tup, sub_lst, slice_tup, slice_lst, at_0, at_1, at_2, at_3, at_m1, rg1_ok, rg2_ok, Int.toNat_natCast, int_int, abs_int, min_int, max_int, slice_scr, decide_eq_true hp, snocM]
          exact ⟨ds ++ [m % 1009], m / 1009, _, rfl, rfl, D.snoc (by omega), by simp; omega⟩
        · simp (disch := first | assumption | omega | (simp only [List.length_append, List.length_cons, List.length_nil, List.length_take, List.length_drop, List.length_replicate, List.length_map]; omega)) only [startP, List.map_cons, List.map_nil, List.length_cons, List.length_nil, List.replicate_succ, List.replicate_zero, List.cons_append, List.nil_append, Nat.add_zero, Nat.zero_add, Nat.reduceAdd, Nat.reduceSub, Nat.reduceLT, Nat.reduceLeDiff, List.getElem?_cons_succ, List.getElem?_cons_zero, List.set_cons_succ, List.set_cons_zero, bind_ok, bind_exc, calm_ok, lift_some,
      x_var, x_int, x_lit, x_bl, x_non, x_bin, x_neg, x_cmp, x_chain, x_bool, x_not, x_ite, x_call, x_bcall, x_isi, x_meth, x_tup, x_listT, x_listF, x_sub, x_slice, x_nil, x_cons, x_onone, x_osome, x_tnil, x_tcons, x_b1, x_and, x_or, x_seq, x_range1, x_range2, x_enum,
      s_nil, s_cons, s_expr, s_ret, s_retN, s_asg, s_par, s_aug, s_if, s_raise, s_try, s_pass, s_brk, s_cont, h_nil, h_cons, tru_bl, b_add, b_sub, b_addI, b_mulI, b_mod, b_fdiv, a_addI, a_subI, c_eq, c_ne, c_lt, c_le, c_gt, c_ge, c_in, c_nin, c_isN, c_isnotN, eq_int, bindN, bindTp, setA0, setA1, omap, Option.map_some, Option.map_none, add_sv, aug_sv, len_sv, sub_sv, cut_sv, find_sv, find3_sv, index_sv, in_sv, r_index, r_rjust, r_find, r_find3, r_join, if_true, bx, nx, nxc, tx, ny_next, ny_cont, ny_brk, ny_ret, ny_exc, len_app, len_lst, len_tup, tuple_lst, r_app, append_app, add_tup, add_lst, sub_tup, sub_lst, slice_tup, slice_lst, at_0, at_1, at_2, at_3, at_m1, rg1_ok, rg2_ok, Int.toNat_natCast, int_int, abs_int, min_int, max_int, slice_scr, decide_eq_false hp]
          exact ⟨ds, m, _, rfl, rfl, D, by omega⟩)
      subst f1 f2
      rw [show (rangeL 0 (60 : Int).toNat).length = 60 from rangeL_n 60] at f4
      simp (disch := first | assumption | omega | (simp only [List.length_append, List.length_cons, List.length_nil, List.length_take, List.length_drop, List.length_replicate, List.length_map]; omega)) only [startP, List.map_cons, List.map_nil, List.length_cons, List.length_nil, List.replicate_succ, List.replicate_zero, List.cons_append, List.nil_append, Nat.add_zero, Nat.zero_add, Nat.reduceAdd, Nat.reduceSub, Nat.reduceLT, Nat.reduceLeDiff, List.getElem?_cons_succ, List.getElem?_cons_zero, List.set_cons_succ, List.set_cons_zero, bind_ok, bind_exc, calm_ok, lift_some,
      x_var, x_int, x_lit, x_bl, x_non, x_bin, x_neg, x_cmp, x_chain, x_bool, x_not, x_ite, x_call, x_bcall, x_isi, x_meth, x_tup, x_listT, x_listF, x_sub, x_slice, x_nil, x_cons, x_onone, x_osome, x_tnil, x_tcons, x_b1, x_and, x_or, x_seq, x_range1, x_range2, x_enum,
      s_nil, s_cons, s_expr, s_ret, s_retN, s_asg, s_par, s_aug, s_if, s_raise, s_try, s_pass, s_brk, s_cont, h_nil, h_cons, tru_bl, b_add, b_sub, b_addI, b_mulI, b_mod, b_fdiv, a_addI, a_subI, c_eq, c_ne, c_lt, c_le, c_gt, c_ge, c_in, c_nin, c_isN, c_isnotN, eq_int, bindN, bindTp, setA0, setA1, omap, Option.map_some, Option.map_none, add_sv, aug_sv, len_sv, sub_sv, cut_sv, find_sv, find3_sv, index_sv, in_sv, r_index, r_rjust, r_find, r_find3, r_join, if_true, bx, nx, nxc, tx, ny_next, ny_cont, ny_brk, ny_ret, ny_exc, len_app, len_lst, len_tup, tuple_lst, r_app, append_app, add_tup, add_lst, sub_tup, sub_lst, slice_tup, slice_lst, at_0, at_1, at_2, at_3, at_m1, rg1_ok, rg2_ok, Int.toNat_natCast, int_int, abs_int, min_int, max_int, slice_scr]
      exact ⟨ds2, _, _, _, _, rfl, rfl, f3, by omega⟩
    · have l8 : (ds.map PV.int).length < 16777216 := by rw [List.length_map]; omega
      simp (disch := first | assumption | omega | (simp only [List.length_append, List.length_cons, List.length_nil, List.length_take, List.length_drop, List.length_replicate, List.length_map]; omega)) only [startP, List.map_cons, List.map_nil, List.length_cons, List.length_nil, List.replicate_succ, List.replicate_zero, List.cons_append, List.nil_append, Nat.add_zero, Nat.zero_add, Nat.reduceAdd, Nat.reduceSub, Nat.reduceLT, Nat.reduceLeDiff, List.getElem?_cons_succ, List.getElem?_cons_zero, List.set_cons_succ, List.set_cons_zero, bind_ok, bind_exc, calm_ok, lift_some,
      x_var, x_int, x_lit, x_bl, x_non, x_bin, x_neg, x_cmp, x_chain, x_bool, x_not, x_ite, x_call, x_bcall, x_isi, x_meth, x_tup, x_listT, x_listF, x_sub, x_slice, x_nil, x_cons, x_onone, x_osome, x_tnil, x_tcons, x_b1, x_and, x_or, x_seq, x_range1, x_range2, x_enum,
      s_nil, s_cons, s_expr, s_ret, s_retN, s_asg, s_par, s_aug, s_if, s_raise, s_try, s_pass, s_brk, s_cont, h_nil, h_cons, tru_bl, b_add, b_sub, b_addI, b_mulI, b_mod, b_fdiv, a_addI, a_subI, c_eq, c_ne, c_lt, c_le, c_gt, c_ge, c_in, c_nin, c_isN, c_isnotN, eq_int, bindN, bindTp, setA0, setA1, omap, Option.map_some, Option.map_none, add_sv, aug_sv, len_sv, sub_sv, cut_sv, find_sv, find3_sv, index_sv, in_sv, r_index, r_rjust, r_find, r_find3, r_join, if_true, bx, nx, nxc, tx, ny_next, ny_cont, ny_brk, ny_ret, ny_exc, len_app, len_lst, len_tup, tuple_lst, r_app, append_app, add_tup, add_lst, sub_tup, sub_lst, slice_tup, slice_lst, at_0, at_1, at_2, at_3, at_m1, rg1_ok, rg2_ok, Int.toNat_natCast, int_int, abs_int, min_int, max_int, slice_scr, decide_eq_false hb, snocM]
      exact ⟨_, _, _, _, _, rfl, rfl, D.snoc (by omega), by simp; omega⟩)
  subst e1 e2
  have hz : ds.length ≤ 60 * 63 := by
    have q' : cutP ns none (some 63) = ns.take 63 := cut_to ns 63
    rw [List.length_map, q', List.length_take] at e4
    omega
  simp (disch := first | assumption | omega | (simp only [List.length_append, List.length_cons, List.length_nil, List.length_take, List.length_drop, List.length_replicate, List.length_map]; omega)) only [startP, List.map_cons, List.map_nil, List.length_cons, List.length_nil, List.replicate_succ, List.replicate_zero, List.cons_append, List.nil_append, Nat.add_zero, Nat.zero_add, Nat.reduceAdd, Nat.reduceSub, Nat.reduceLT, Nat.reduceLeDiff, List.getElem?_cons_succ, List.getElem?_cons_zero, List.set_cons_succ, List.set_cons_zero, bind_ok, bind_exc, calm_ok, lift_some,
      x_var, x_int, x_lit, x_bl, x_non, x_bin, x_neg, x_cmp, x_chain, x_bool, x_not, x_ite, x_call, x_bcall, x_isi, x_meth, x_tup, x_listT, x_listF, x_sub, x_slice, x_nil, x_cons, x_onone, x_osome, x_tnil, x_tcons, x_b1, x_and, x_or, x_seq, x_range1, x_range2, x_enum,
      s_nil, s_cons, s_expr, s_ret, s_retN, s_asg, s_par, s_aug, s_if, s_raise, s_try, s_pass, s_brk, s_cont, h_nil, h_cons, tru_bl, b_add, b_sub, b_addI, b_mulI, b_mod, b_fdiv, a_addI, a_subI, c_eq, c_ne, c_lt, c_le, c_gt, c_ge, c_in, c_nin, c_isN, c_isnotN, eq_int, bindN, bindTp, setA0, setA1, omap, Option.map_some, Option.map_none, add_sv, aug_sv, len_sv, sub_sv, cut_sv, find_sv, find3_sv, index_sv, in_sv, r_index, r_rjust, r_find, r_find3, r_join, if_true, bx, nx, nxc, tx, ny_next, ny_cont, ny_brk, ny_ret, ny_exc, len_app, len_lst, len_tup, tuple_lst, r_app, append_app, add_tup, add_lst, sub_tup, sub_lst, slice_tup, slice_lst, at_0, at_1, at_2, at_3, at_m1, rg1_ok, rg2_ok, Int.toNat_natCast, int_int, abs_int, min_int, max_int, slice_scr, s_for]
  generalize hq : forL _ _ _ _ _ _ = q
  obtain ⟨σ', h', rfl, ds', seed', t', e1, e2, e3', e4', e5'⟩ := for_q hq (fun i σ g => ∃ ds seed t, σ = [some (.scr ns), some (.int 120), some (.ref h.length), some (.int seed), y, z, t] ∧ g = h ++ [.lst (ds.map .int)] ∧ Dr ds ∧ ds.length ≤ 10000 ∧ i ≤ ds.length) (fun _ _ _ _ => rfl) ⟨ds, seed, t, rfl, rfl, e3, by omega, Nat.zero_le _⟩ (by
    rintro i x σ g hx ⟨ds, seed, t, rfl, rfl, D, hl, hl2⟩
    obtain ⟨rfl, hi⟩ := rangeL_at _ _ _ hx
    have hi : i < 120 := hi
    by_cases hb : (((ds.map PV.int).length : Nat) : Int) < 120
    · have l8 : (ds.map PV.int).length < 16777216 := by omega
      rw [List.length_map] at hb
      simp (disch := first | assumption | omega | (simp only [List.length_append, List.length_cons, List.length_nil, List.length_take, List.length_drop, List.length_replicate, List.length_map]; omega)) only [startP, List.map_cons, List.map_nil, List.length_cons, List.length_nil, List.replicate_succ, List.replicate_zero, List.cons_append, List.nil_append, Nat.add_zero, Nat.zero_add, Nat.reduceAdd, Nat.reduceSub, Nat.reduceLT, Nat.reduceLeDiff, List.getElem?_cons_succ, List.getElem?_cons_zero, List.set_cons_succ, List.set_cons_zero, bind_ok, bind_exc, calm_ok, lift_some,
      x_var, x_int, x_lit, x_bl, x_non, x_bin, x_neg, x_cmp, x_chain, x_bool, x_not, x_ite, x_call, x_bcall, x_isi, x_meth, x_tup, x_listT, x_listF, x_sub, x_slice, x_nil, x_cons, x_onone, x_osome, x_tnil, x_tcons, x_b1, x_and, x_or, x_seq, x_range1, x_range2, x_enum,
      s_nil, s_cons, s_expr, s_ret, s_retN, s_asg, s_par, s_aug, s_if, s_raise, s_try, s_pass, s_brk, s_cont, h_nil, h_cons, tru_bl, b_add, b_sub, b_addI, b_mulI, b_mod, b_fdiv, a_addI, a_subI, c_eq, c_ne, c_lt, c_le, c_gt, c_ge, c_in, c_nin, c_isN, c_isnotN, eq_int, bindN, bindTp, setA0, setA1, omap, Option.map_some, Option.map_none, add_sv, aug_sv, len_sv, sub_sv, cut_sv, find_sv, find3_sv, index_sv, in_sv, r_index, r_rjust, r_find, r_find3, r_join, if_true, bx, nx, nxc, tx, ny_next, ny_cont, ny_brk, ny_ret, ny_exc, len_app, len_lst, len_tup, tuple_lst, r_app, append_app, add_tup, add_lst, sub_tup, sub_lst, slice_tup, slice_lst, at_0, at_1, at_2, at_3, at_m1, rg1_ok, rg2_ok, Int.toNat_natCast, int_int, abs_int, min_int, max_int, slice_scr, List.length_map, decide_eq_true hb, snocM]
      exact ⟨_, _, _, rfl, rfl, D.snoc (by omega), by simp; omega, by simp; omega⟩
    · rw [List.length_map] at hb
      simp (disch := first | assumption | omega | (simp only [List.length_append, List.length_cons, List.length_nil, List.length_take, List.length_drop, List.length_replicate, List.length_map]; omega)) only [startP, List.map_cons, List.map_nil, List.length_cons, List.length_nil, List.replicate_succ, List.replicate_zero, List.cons_append, List.nil_append, Nat.add_zero, Nat.zero_add, Nat.reduceAdd, Nat.reduceSub, Nat.reduceLT, Nat.reduceLeDiff, List.getElem?_cons_succ, List.getElem?_cons_zero, List.set_cons_succ, List.set_cons_zero, bind_ok, bind_exc, calm_ok, lift_some,
      x_var, x_int, x_lit, x_bl, x_non, x_bin, x_neg, x_cmp, x_chain, x_bool, x_not, x_ite, x_call, x_bcall, x_isi, x_meth, x_tup, x_listT, x_listF, x_sub, x_slice, x_nil, x_cons, x_onone, x_osome, x_tnil, x_tcons, x_b1, x_and, x_or, x_seq, x_range1, x_range2, x_enum,
      s_nil, s_cons, s_expr, s_ret, s_retN, s_asg, s_par, s_aug, s_if, s_raise, s_try, s_pass, s_brk, s_cont, h_nil, h_cons, tru_bl, b_add, b_sub, b_addI, b_mulI, b_mod, b_fdiv, a_addI, a_subI, c_eq, c_ne, c_lt, c_le, c_gt, c_ge, c_in, c_nin, c_isN, c_isnotN, eq_int, bindN, bindTp, setA0, setA1, omap, Option.map_some, Option.map_none, add_sv, aug_sv, len_sv, sub_sv, cut_sv, find_sv, find3_sv, index_sv, in_sv, r_index, r_rjust, r_find, r_find3, r_join, if_true, bx, nx, nxc, tx, ny_next, ny_cont, ny_brk, ny_ret, ny_exc, len_app, len_lst, len_tup, tuple_lst, r_app, append_app, add_tup, add_lst, sub_tup, sub_lst, slice_tup, slice_lst, at_0, at_1, at_2, at_3, at_m1, rg1_ok, rg2_ok, Int.toNat_natCast, int_int, abs_int, min_int, max_int, slice_scr, List.length_map, decide_eq_false hb]
      exact ⟨ds, seed, _, rfl, rfl, D, hl, by omega⟩)
  subst e1 e2
  rw [show (rangeL 0 (120 : Int).toNat).length = 120 from rangeL_n 120] at e5'
  have ec : cutP (ds'.map PV.int) none (some 120) = (ds'.take 120).map PV.int := by
    have : cutP (ds'.map PV.int) none (some 120) = (ds'.map PV.int).take 120 := cut_to _ 120
    rw [this, List.map_take]
  refine ⟨ds'.take 120, ⟨by rw [List.length_take]; omega, fun d m => e3' d (List.mem_of_mem_take m)⟩, ?_⟩
  simp (disch := first | assumption | omega | (simp only [List.length_append, List.length_cons, List.length_nil, List.length_take, List.length_drop, List.length_replicate, List.length_map]; omega)) only [startP, List.map_cons, List.map_nil, List.length_cons, List.length_nil, List.replicate_succ, List.replicate_zero, List.cons_append, List.nil_append, Nat.add_zero, Nat.zero_add, Nat.reduceAdd, Nat.reduceSub, Nat.reduceLT, Nat.reduceLeDiff, List.getElem?_cons_succ, List.getElem?_cons_zero, List.set_cons_succ, List.set_cons_zero, bind_ok, bind_exc, calm_ok, lift_some,
      x_var, x_int, x_lit, x_bl, x_non, x_bin, x_neg, x_cmp, x_chain, x_bool, x_not, x_ite, x_call, x_bcall, x_isi, x_meth, x_tup, x_listT, x_listF, x_sub, x_slice, x_nil, x_cons, x_onone, x_osome, x_tnil, x_tcons, x_b1, x_and, x_or, x_seq, x_range1, x_range2, x_enum,
      s_nil, s_cons, s_expr, s_ret, s_retN, s_asg, s_par, s_aug, s_if, s_raise, s_try, s_pass, s_brk, s_cont, h_nil, h_cons, tru_bl, b_add, b_sub, b_addI, b_mulI, b_mod, b_fdiv, a_addI, a_subI, c_eq, c_ne, c_lt, c_le, c_gt, c_ge, c_in, c_nin, c_isN, c_isnotN, eq_int, bindN, bindTp, setA0, setA1, omap, Option.map_some, Option.map_none, add_sv, aug_sv, len_sv, sub_sv, cut_sv, find_sv, find3_sv, index_sv, in_sv, r_index, r_rjust, r_find, r_find3, r_join, if_true, bx, nx, nxc, tx, ny_next, ny_cont, ny_brk, ny_ret, ny_exc, len_app, len_lst, len_tup, tuple_lst, r_app, append_app, add_tup, add_lst, sub_tup, sub_lst, slice_tup, slice_lst, at_0, at_1, at_2, at_3, at_m1, rg1_ok, rg2_ok, Int.toNat_natCast, int_int, abs_int, min_int, max_int, slice_scr, slice_app, ec]
  exact exit_ret_pure _ (pures_int _)
/-! _law_due -/
def pre (leaves : List (List Nat)) (k : Nat) : List Nat := (leaves.take k).flatten
theorem law_due (k : Nat) (A B : List (List Nat)) (vs : List PV) (t : List Nat) (hB : ∀ b B', B = b :: B' → ∀ r, t ≠ b ++ r) (ht : A.flatten.length + t.length ≤ 16000000) (hf : (A ++ B).flatten.length ≤ 16000000) (hn : (A ++ B).length ≤ 1000000)
    (o1 : okL (A ++ B).flatten = true) (o2 : okL t = true) (pv : PV.pures (vs.take A.length) = true) (h : PHeap) : Fx.run C (k + 1) 9004 [.lst ((A ++ B).map sv), .tup vs, sv (A.flatten ++ t)] h = .ok (.tup [.tup (vs.take A.length), .int (A.flatten.length : Nat)]) h := by
  rw [run_succ (F := f__law_due) rfl k _ _ rfl]
  unfold f__law_due
  have ln := line24
  have lT : (A.flatten ++ t).length ≤ 16000000 := by rw [List.length_append]; exact ht
  have jn : ∀ (i : Nat) (g : PHeap), bmV .join g (sv []) [.lst (((A ++ B).map sv).take i)] = .ok (sv ((A ++ B).take i).flatten) g ∧ ((A ++ B).take i).flatten.length ≤ 16000000 := by
    intro i g
    have hl : ((A ++ B).take i).flatten.length ≤ 16000000 := by
      have : (A ++ B) = (A ++ B).take i ++ (A ++ B).drop i := (List.take_append_drop ..).symm
      rw [this, List.flatten_append, List.length_append] at hf
      omega
    refine ⟨join_sv g _ ((A ++ B).take i) ?_ (by omega), hl⟩
    rw [← List.map_take]; rfl
  simp (disch := first | assumption | omega | (simp only [List.length_append, List.length_cons, List.length_nil, List.length_take, List.length_drop, List.length_replicate, List.length_map]; omega)) only [startP, List.map_cons, List.map_nil, List.length_cons, List.length_nil, List.replicate_succ, List.replicate_zero, List.cons_append, List.nil_append, Nat.add_zero, Nat.zero_add, Nat.reduceAdd, Nat.reduceSub, Nat.reduceLT, Nat.reduceLeDiff, List.getElem?_cons_succ, List.getElem?_cons_zero, List.set_cons_succ, List.set_cons_zero, bind_ok, bind_exc, calm_ok, lift_some,
      x_var, x_int, x_lit, x_bl, x_non, x_bin, x_neg, x_cmp, x_chain, x_bool, x_not, x_ite, x_call, x_bcall, x_isi, x_meth, x_tup, x_listT, x_listF, x_sub, x_slice, x_nil, x_cons, x_onone, x_osome, x_tnil, x_tcons, x_b1, x_and, x_or, x_seq, x_range1, x_range2, x_enum,
      s_nil, s_cons, s_expr, s_ret, s_retN, s_asg, s_par, s_aug, s_if, s_raise, s_try, s_pass, s_brk, s_cont, h_nil, h_cons, tru_bl, b_add, b_sub, b_addI, b_mulI, b_mod, b_fdiv, a_addI, a_subI, c_eq, c_ne, c_lt, c_le, c_gt, c_ge, c_in, c_nin, c_isN, c_isnotN, eq_int, bindN, bindTp, setA0, setA1, omap, Option.map_some, Option.map_none, add_sv, aug_sv, len_sv, sub_sv, cut_sv, find_sv, find3_sv, index_sv, in_sv, r_index, r_rjust, r_find, r_find3, r_join, if_true, bx, nx, nxc, tx, ny_next, ny_cont, ny_brk, ny_ret, ny_exc, len_app, len_lst, len_tup, tuple_lst, r_app, append_app, add_tup, add_lst, sub_tup, sub_lst, slice_tup, slice_lst, at_0, at_1, at_2, at_3, at_m1, rg1_ok, rg2_ok, Int.toNat_natCast, int_int, abs_int, min_int, max_int, slice_scr, s_for, List.length_map]
  generalize hq : forL _ _ _ _ _ _ = q
  obtain ⟨σ', h', rfl, e1, y, e2⟩ := for_q hq (fun i σ g => g = h ∧ ∃ y, σ = [some (.lst ((A ++ B).map sv)), some (.tup vs), some (sv (A.flatten ++ t)), some (.int ((min i A.length : Nat) : Int)), y]) (fun _ _ _ _ => rfl) ⟨rfl, none, by simp⟩ (by
    rintro i x σ g hx ⟨rfl, y, rfl⟩
    obtain ⟨rfl, hi⟩ := rangeL_at _ _ _ hx
    have e6 : ((i : Int) + 1) = ((i + 1 : Nat) : Int) := by omega
    obtain ⟨j1, j2⟩ := jn (i + 1) g
    have jn1 : ∀ g, bmV .join g (sv []) [.lst (((A ++ B).map sv).take (i + 1))] = .ok (sv ((A ++ B).take (i + 1)).flatten) g := fun g => (jn (i + 1) g).1
    have ok1 : okL ((A.flatten ++ t).take ((A ++ B).take (i + 1)).flatten.length) = true := okL_take _ (by rw [okL_app]; rw [List.flatten_append, okL_app] at o1; simp at o1; rw [o1.1, o2]; rfl)
    have ok2 : okL ((A ++ B).take (i + 1)).flatten = true := by
      have : (A ++ B) = (A ++ B).take (i + 1) ++ (A ++ B).drop (i + 1) := (List.take_append_drop ..).symm
      rw [this, List.flatten_append, okL_app] at o1
      simp at o1
      exact o1.1
    have q1 : ∀ g, eqV g (sv ((A.flatten ++ t).take ((A ++ B).take (i + 1)).flatten.length)) (sv ((A ++ B).take (i + 1)).flatten) = some (decide ((A.flatten ++ t).take ((A ++ B).take (i + 1)).flatten.length = ((A ++ B).take (i + 1)).flatten)) := fun g => eq_sv g _ _ ok1 ok2
    by_cases c : i < A.length
    · have e : (A.flatten ++ t).take ((A ++ B).take (i + 1)).flatten.length = ((A ++ B).take (i + 1)).flatten := by
        have ep : (A ++ B).take (i + 1) = A.take (i + 1) := List.take_append_of_le_length (by omega)
        rw [ep]
        have : A.flatten ++ t = (A.take (i + 1)).flatten ++ ((A.drop (i + 1)).flatten ++ t) := by
          rw [← List.append_assoc, ← List.flatten_append, List.take_append_drop]
        rw [this, List.take_left]
      simp (disch := first | assumption | omega | (simp only [List.length_append, List.length_cons, List.length_nil, List.length_take, List.length_drop, List.length_replicate, List.length_map]; omega)) only [startP, List.map_cons, List.map_nil, List.length_cons, List.length_nil, List.replicate_succ, List.replicate_zero, List.cons_append, List.nil_append, Nat.add_zero, Nat.zero_add, Nat.reduceAdd, Nat.reduceSub, Nat.reduceLT, Nat.reduceLeDiff, List.getElem?_cons_succ, List.getElem?_cons_zero, List.set_cons_succ, List.set_cons_zero, bind_ok, bind_exc, calm_ok, lift_some,
      x_var, x_int, x_lit, x_bl, x_non, x_bin, x_neg, x_cmp, x_chain, x_bool, x_not, x_ite, x_call, x_bcall, x_isi, x_meth, x_tup, x_listT, x_listF, x_sub, x_slice, x_nil, x_cons, x_onone, x_osome, x_tnil, x_tcons, x_b1, x_and, x_or, x_seq, x_range1, x_range2, x_enum,
      s_nil, s_cons, s_expr, s_ret, s_retN, s_asg, s_par, s_aug, s_if, s_raise, s_try, s_pass, s_brk, s_cont, h_nil, h_cons, tru_bl, b_add, b_sub, b_addI, b_mulI, b_mod, b_fdiv, a_addI, a_subI, c_eq, c_ne, c_lt, c_le, c_gt, c_ge, c_in, c_nin, c_isN, c_isnotN, eq_int, bindN, bindTp, setA0, setA1, omap, Option.map_some, Option.map_none, add_sv, aug_sv, len_sv, sub_sv, cut_sv, find_sv, find3_sv, index_sv, in_sv, r_index, r_rjust, r_find, r_find3, r_join, if_true, bx, nx, nxc, tx, ny_next, ny_cont, ny_brk, ny_ret, ny_exc, len_app, len_lst, len_tup, tuple_lst, r_app, append_app, add_tup, add_lst, sub_tup, sub_lst, slice_tup, slice_lst, at_0, at_1, at_2, at_3, at_m1, rg1_ok, rg2_ok, Int.toNat_natCast, int_int, abs_int, min_int, max_int, slice_scr, e6, l_nil, jn1, cut_to, q1, decide_eq_true e]
      exact ⟨trivial, _, by rw [show min (i + 1) A.length = i + 1 by omega]⟩
    · have e : ¬ (A.flatten ++ t).take ((A ++ B).take (i + 1)).flatten.length = ((A ++ B).take (i + 1)).flatten := by
        intro e
        obtain ⟨b, B', hb⟩ : ∃ b B', B = b :: B' := by
          cases B with
          | nil => rw [List.append_nil] at hi; exact absurd hi c
          | cons b B' => exact ⟨b, B', rfl⟩
        have ea : ((A ++ B).take (i + 1)).flatten = A.flatten ++ (b ++ (B'.take (i - A.length)).flatten) := by
          rw [List.take_append, List.take_of_length_le (by omega), List.flatten_append, hb, show i + 1 - A.length = (i - A.length) + 1 by omega]
          rfl
        have := List.take_append_drop ((A ++ B).take (i + 1)).flatten.length (A.flatten ++ t)
        rw [e, ea, List.append_assoc] at this
        have := List.append_cancel_left this
        rw [List.append_assoc] at this
        exact hB b B' hb _ this.symm
      simp (disch := first | assumption | omega | (simp only [List.length_append, List.length_cons, List.length_nil, List.length_take, List.length_drop, List.length_replicate, List.length_map]; omega)) only [startP, List.map_cons, List.map_nil, List.length_cons, List.length_nil, List.replicate_succ, List.replicate_zero, List.cons_append, List.nil_append, Nat.add_zero, Nat.zero_add, Nat.reduceAdd, Nat.reduceSub, Nat.reduceLT, Nat.reduceLeDiff, List.getElem?_cons_succ, List.getElem?_cons_zero, List.set_cons_succ, List.set_cons_zero, bind_ok, bind_exc, calm_ok, lift_some,
      x_var, x_int, x_lit, x_bl, x_non, x_bin, x_neg, x_cmp, x_chain, x_bool, x_not, x_ite, x_call, x_bcall, x_isi, x_meth, x_tup, x_listT, x_listF, x_sub, x_slice, x_nil, x_cons, x_onone, x_osome, x_tnil, x_tcons, x_b1, x_and, x_or, x_seq, x_range1, x_range2, x_enum,
      s_nil, s_cons, s_expr, s_ret, s_retN, s_asg, s_par, s_aug, s_if, s_raise, s_try, s_pass, s_brk, s_cont, h_nil, h_cons, tru_bl, b_add, b_sub, b_addI, b_mulI, b_mod, b_fdiv, a_addI, a_subI, c_eq, c_ne, c_lt, c_le, c_gt, c_ge, c_in, c_nin, c_isN, c_isnotN, eq_int, bindN, bindTp, setA0, setA1, omap, Option.map_some, Option.map_none, add_sv, aug_sv, len_sv, sub_sv, cut_sv, find_sv, find3_sv, index_sv, in_sv, r_index, r_rjust, r_find, r_find3, r_join, if_true, bx, nx, nxc, tx, ny_next, ny_cont, ny_brk, ny_ret, ny_exc, len_app, len_lst, len_tup, tuple_lst, r_app, append_app, add_tup, add_lst, sub_tup, sub_lst, slice_tup, slice_lst, at_0, at_1, at_2, at_3, at_m1, rg1_ok, rg2_ok, Int.toNat_natCast, int_int, abs_int, min_int, max_int, slice_scr, e6, l_nil, jn1, cut_to, q1, decide_eq_false e]
      exact ⟨trivial, _, by rw [show min (i + 1) A.length = min i A.length by omega]⟩)
  subst e1 e2
  rw [rangeL_n, show min (A ++ B).length A.length = A.length by rw [List.length_append]; omega]
  obtain ⟨j1, j2⟩ := jn A.length h'
  have ea : (A ++ B).take A.length = A := List.take_left
  rw [ea] at j1 j2
  have jn1 : ∀ g, bmV .join g (sv []) [.lst (((A ++ B).map sv).take A.length)] = .ok (sv A.flatten) g := fun g => by rw [(jn A.length g).1, ea]
  simp (disch := first | assumption | omega | (simp only [List.length_append, List.length_cons, List.length_nil, List.length_take, List.length_drop, List.length_replicate, List.length_map]; omega)) only [startP, List.map_cons, List.map_nil, List.length_cons, List.length_nil, List.replicate_succ, List.replicate_zero, List.cons_append, List.nil_append, Nat.add_zero, Nat.zero_add, Nat.reduceAdd, Nat.reduceSub, Nat.reduceLT, Nat.reduceLeDiff, List.getElem?_cons_succ, List.getElem?_cons_zero, List.set_cons_succ, List.set_cons_zero, bind_ok, bind_exc, calm_ok, lift_some,
      x_var, x_int, x_lit, x_bl, x_non, x_bin, x_neg, x_cmp, x_chain, x_bool, x_not, x_ite, x_call, x_bcall, x_isi, x_meth, x_tup, x_listT, x_listF, x_sub, x_slice, x_nil, x_cons, x_onone, x_osome, x_tnil, x_tcons, x_b1, x_and, x_or, x_seq, x_range1, x_range2, x_enum,
      s_nil, s_cons, s_expr, s_ret, s_retN, s_asg, s_par, s_aug, s_if, s_raise, s_try, s_pass, s_brk, s_cont, h_nil, h_cons, tru_bl, b_add, b_sub, b_addI, b_mulI, b_mod, b_fdiv, a_addI, a_subI, c_eq, c_ne, c_lt, c_le, c_gt, c_ge, c_in, c_nin, c_isN, c_isnotN, eq_int, bindN, bindTp, setA0, setA1, omap, Option.map_some, Option.map_none, add_sv, aug_sv, len_sv, sub_sv, cut_sv, find_sv, find3_sv, index_sv, in_sv, r_index, r_rjust, r_find, r_find3, r_join, if_true, bx, nx, nxc, tx, ny_next, ny_cont, ny_brk, ny_ret, ny_exc, len_app, len_lst, len_tup, tuple_lst, r_app, append_app, add_tup, add_lst, sub_tup, sub_lst, slice_tup, slice_lst, at_0, at_1, at_2, at_3, at_m1, rg1_ok, rg2_ok, Int.toNat_natCast, int_int, abs_int, min_int, max_int, slice_scr, cut_to, l_nil, jn1]
  refine exit_ret0 ?_
  show (PV.pures (vs.take A.length) && true) = true
  rw [pv]; rfl
/-! _law_word -/
theorem calm_ret (v : PV) (h : PHeap) : (SRes.ret v h).calm = .ret v h := id rfl
theorem word_0 (k : Nat) (v : PV) (hv : isV .tuple v = some false ∨ ∃ xs, v = .tup xs ∧ (∀ x ∈ xs, okW x) ∧ xs.length ≤ 16777216 ∧ (xs.all arewV) = false) (h : PHeap) : Fx.run C (k + 3) 9005 [.int 0, v] h = .ok (sv (L "words")) h := by
  rw [run_succ (F := f__law_word) rfl (k + 2) _ _ rfl]
  unfold f__law_word
  have lb := fun h => leaves_of_bad has k v hv h
  have x1 : (C.excs 19).isSome = true := rfl
  have x2 : C.sub 19 19 = true := rfl
  simp (disch := first | assumption | omega | (simp only [List.length_append, List.length_cons, List.length_nil, List.length_take, List.length_drop, List.length_replicate, List.length_map]; omega)) only [startP, List.map_cons, List.map_nil, List.length_cons, List.length_nil, List.replicate_succ, List.replicate_zero, List.cons_append, List.nil_append, Nat.add_zero, Nat.zero_add, Nat.reduceAdd, Nat.reduceSub, Nat.reduceLT, Nat.reduceLeDiff, List.getElem?_cons_succ, List.getElem?_cons_zero, List.set_cons_succ, List.set_cons_zero, bind_ok, bind_exc, calm_ok, lift_some,
      x_var, x_int, x_lit, x_bl, x_non, x_bin, x_neg, x_cmp, x_chain, x_bool, x_not, x_ite, x_call, x_bcall, x_isi, x_meth, x_tup, x_listT, x_listF, x_sub, x_slice, x_nil, x_cons, x_onone, x_osome, x_tnil, x_tcons, x_b1, x_and, x_or, x_seq, x_range1, x_range2, x_enum,
      s_nil, s_cons, s_expr, s_ret, s_retN, s_asg, s_par, s_aug, s_if, s_raise, s_try, s_pass, s_brk, s_cont, h_nil, h_cons, tru_bl, b_add, b_sub, b_addI, b_mulI, b_mod, b_fdiv, a_addI, a_subI, c_eq, c_ne, c_lt, c_le, c_gt, c_ge, c_in, c_nin, c_isN, c_isnotN, eq_int, bindN, bindTp, setA0, setA1, omap, Option.map_some, Option.map_none, add_sv, aug_sv, len_sv, sub_sv, cut_sv, find_sv, find3_sv, index_sv, in_sv, r_index, r_rjust, r_find, r_find3, r_join, if_true, bx, nx, nxc, tx, ny_next, ny_cont, ny_brk, ny_ret, ny_exc, len_app, len_lst, len_tup, tuple_lst, r_app, append_app, add_tup, add_lst, sub_tup, sub_lst, slice_tup, slice_lst, at_0, at_1, at_2, at_3, at_m1, rg1_ok, rg2_ok, Int.toNat_natCast, int_int, abs_int, min_int, max_int, slice_scr, decide_true, lb, x1, x2, calm_ret]
  exact exit_ret0 rfl
theorem word_1 (k : Nat) (v : PV) (hv : isV .str v = some false) (h : PHeap) : Fx.run C (k + 4) 9005 [.int 1, v] h = .ok (sv (L "text")) h := by
  rw [run_succ (F := f__law_word) rfl (k + 3) _ _ rfl]
  unfold f__law_word
  have ck := fun h => check_text has (k + 1) v false hv h
  have wi : ∀ h, Fx.run C (k + 3) 1108 [v] h = .exc 20 h := fun h => by
    rw [run_succ has.f8 (k + 2) _ _ rfl]
    unfold M_leaves.f_words_in
    have ck := check_text has (k + 1) v false hv h
    rw [if_neg (by decide)] at ck
    simp (disch := first | assumption | omega | (simp only [List.length_append, List.length_cons, List.length_nil, List.length_take, List.length_drop, List.length_replicate, List.length_map]; omega)) only [startP, List.map_cons, List.map_nil, List.length_cons, List.length_nil, List.replicate_succ, List.replicate_zero, List.cons_append, List.nil_append, Nat.add_zero, Nat.zero_add, Nat.reduceAdd, Nat.reduceSub, Nat.reduceLT, Nat.reduceLeDiff, List.getElem?_cons_succ, List.getElem?_cons_zero, List.set_cons_succ, List.set_cons_zero, bind_ok, bind_exc, calm_ok, lift_some,
      x_var, x_int, x_lit, x_bl, x_non, x_bin, x_neg, x_cmp, x_chain, x_bool, x_not, x_ite, x_call, x_bcall, x_isi, x_meth, x_tup, x_listT, x_listF, x_sub, x_slice, x_nil, x_cons, x_onone, x_osome, x_tnil, x_tcons, x_b1, x_and, x_or, x_seq, x_range1, x_range2, x_enum,
      s_nil, s_cons, s_expr, s_ret, s_retN, s_asg, s_par, s_aug, s_if, s_raise, s_try, s_pass, s_brk, s_cont, h_nil, h_cons, tru_bl, b_add, b_sub, b_addI, b_mulI, b_mod, b_fdiv, a_addI, a_subI, c_eq, c_ne, c_lt, c_le, c_gt, c_ge, c_in, c_nin, c_isN, c_isnotN, eq_int, bindN, bindTp, setA0, setA1, omap, Option.map_some, Option.map_none, add_sv, aug_sv, len_sv, sub_sv, cut_sv, find_sv, find3_sv, index_sv, in_sv, r_index, r_rjust, r_find, r_find3, r_join, if_true, bx, nx, nxc, tx, ny_next, ny_cont, ny_brk, ny_ret, ny_exc, len_app, len_lst, len_tup, tuple_lst, r_app, append_app, add_tup, add_lst, sub_tup, sub_lst, slice_tup, slice_lst, at_0, at_1, at_2, at_3, at_m1, rg1_ok, rg2_ok, Int.toNat_natCast, int_int, abs_int, min_int, max_int, slice_scr, ck]
    exact exit_exc0
  have e1 : decide ((1 : Int) = 0) = false := by decide
  have x1 : (C.excs 20).isSome = true := rfl
  have x2 : C.sub 20 19 = false := rfl
  have x3 : C.sub 20 20 = true := rfl
  simp (disch := first | assumption | omega | (simp only [List.length_append, List.length_cons, List.length_nil, List.length_take, List.length_drop, List.length_replicate, List.length_map]; omega)) only [startP, List.map_cons, List.map_nil, List.length_cons, List.length_nil, List.replicate_succ, List.replicate_zero, List.cons_append, List.nil_append, Nat.add_zero, Nat.zero_add, Nat.reduceAdd, Nat.reduceSub, Nat.reduceLT, Nat.reduceLeDiff, List.getElem?_cons_succ, List.getElem?_cons_zero, List.set_cons_succ, List.set_cons_zero, bind_ok, bind_exc, calm_ok, lift_some,
      x_var, x_int, x_lit, x_bl, x_non, x_bin, x_neg, x_cmp, x_chain, x_bool, x_not, x_ite, x_call, x_bcall, x_isi, x_meth, x_tup, x_listT, x_listF, x_sub, x_slice, x_nil, x_cons, x_onone, x_osome, x_tnil, x_tcons, x_b1, x_and, x_or, x_seq, x_range1, x_range2, x_enum,
      s_nil, s_cons, s_expr, s_ret, s_retN, s_asg, s_par, s_aug, s_if, s_raise, s_try, s_pass, s_brk, s_cont, h_nil, h_cons, tru_bl, b_add, b_sub, b_addI, b_mulI, b_mod, b_fdiv, a_addI, a_subI, c_eq, c_ne, c_lt, c_le, c_gt, c_ge, c_in, c_nin, c_isN, c_isnotN, eq_int, bindN, bindTp, setA0, setA1, omap, Option.map_some, Option.map_none, add_sv, aug_sv, len_sv, sub_sv, cut_sv, find_sv, find3_sv, index_sv, in_sv, r_index, r_rjust, r_find, r_find3, r_join, if_true, bx, nx, nxc, tx, ny_next, ny_cont, ny_brk, ny_ret, ny_exc, len_app, len_lst, len_tup, tuple_lst, r_app, append_app, add_tup, add_lst, sub_tup, sub_lst, slice_tup, slice_lst, at_0, at_1, at_2, at_3, at_m1, rg1_ok, rg2_ok, Int.toNat_natCast, int_int, abs_int, min_int, max_int, slice_scr, e1, wi, x1, x2, x3, calm_ret, Bool.false_eq_true, if_false]
  exact exit_ret0 rfl
end K54
end
section
set_option Elab.async false
set_option linter.all false
set_option maxRecDepth 100000
set_option maxHeartbeats 8000000
/-! the law: what each test asks. -/
namespace K54
open PySem Fx Lv
open SX (S)
open L2 (atI)
/-- the drawn texts -/
structure Good (ws : List (List Nat)) : Prop where
  one : 1 ≤ ws.length
  five : ws.length ≤ 5
  word : ∀ w ∈ ws, 1 ≤ w.length ∧ w.length ≤ 30 ∧ ∀ c ∈ w, c ∈ TS
theorem Good.arew {ws : List (List Nat)} (G : Good ws) : ∀ w ∈ ws, arew w = true := fun w m => by
  obtain ⟨a, b, c⟩ := G.word w m
  exact arew_iff.mpr ⟨a, by omega, fun x q => TS_SG x (c x q)⟩
theorem SG_small : ∀ c ∈ SG, c < 0x110000 := by decide
theorem okL_SG {l : List Nat} (h : ∀ c ∈ l, c ∈ SG) : okL l = true := by
  unfold okL
  rw [List.all_eq_true]
  exact fun c m => decide_eq_true (SG_small c (h c m))
theorem leaf_len (a n : Nat) (w : List Nat) (hn : n < 10) : (leafBy a n w).length = w.length + 10 := by
  rw [leaf_body, List.length_append, body_len, head_len hn]
  simp
theorem okL_leaf {a n : Nat} {w : List Nat} (h : ∀ c ∈ w, c ∈ SG) : okL (leafBy a n w) = true := by
  unfold leafBy
  rw [okL_app, okL_app, okL_app, okL_SG (head_SG h), okL_pad]
  rfl
theorem okL_leafs : ∀ (us : List (List Nat)) (a n : Nat), (∀ w ∈ us, ∀ c ∈ w, c ∈ SG) → okL (leafs a n us).flatten = true
  | [], _, _, _ => rfl
  | w :: r, a, n, h => by
    show okL (leafBy a n w ++ (leafs _ _ r).flatten) = true
    rw [okL_app, okL_leaf (h w (List.mem_cons_self ..)), okL_leafs r _ _ fun u m => h u (List.mem_cons_of_mem _ m)]
    rfl
theorem len_leafs : ∀ (us : List (List Nat)) (a n : Nat), (leafs a n us).length = us.length
  | [], _, _ => rfl
  | w :: r, a, n => by show (leafs _ _ r).length + 1 = _; rw [len_leafs r]; rfl
theorem flat_leafs : ∀ (us : List (List Nat)) (a n : Nat), (∀ w ∈ us, w.length ≤ 30) → n + us.length ≤ 10 → (leafs a n us).flatten.length ≤ 40 * us.length
  | [], _, _, _, _ => Nat.le_refl _
  | w :: r, a, n, h, hn => by
    simp only [List.length_cons] at hn
    have := flat_leafs r (own a n w) (n + 1) (fun u m => h u (List.mem_cons_of_mem _ m)) (by omega)
    have l := leaf_len a n w (by omega)
    have := h w (List.mem_cons_self ..)
    show (leafBy a n w ++ (leafs (own a n w) (n + 1) r).flatten).length ≤ 40 * (r.length + 1)
    rw [List.length_append]
    omega
/-- what a test's two sides answer -/
def ans (us : List (List Nat)) : PV := .tup [.tup (us.map sv), .int ((leafs 0 1 us).flatten.length : Nat)]
theorem cls_sv : ∀ (us : List (List Nat)) (n : Nat), (∀ w ∈ us, okL w = true) → PV.cls (us.map sv) n = true
  | [], _, _ => rfl
  | w :: r, n, h => by
    show (PV.cl (sv w) n && PV.cls (r.map sv) n) = true
    rw [cl_sv n (h w (List.mem_cons_self ..)), cls_sv r n fun u m => h u (List.mem_cons_of_mem _ m)]
    rfl
theorem ans_cl {us : List (List Nat)} (h : ∀ w ∈ us, okL w = true) : PV.cl (ans us) 60 = true := by
  show (PV.cl (.tup (us.map sv)) 59 && (true && true)) = true
  rw [Bool.and_true, Bool.and_true]
  exact cls_sv us 58 h
theorem ans_eq (g : PHeap) {us : List (List Nat)} (h : ∀ w ∈ us, okL w = true) : eqV g (ans us) (ans us) = some true := by
  rw [eq_cl g _ _ (ans_cl h) (ans_cl h)]
  simp
theorem words_ans (k : Nat) {us : List (List Nat)} {t : List Nat} (h : ∀ w ∈ us, arew w = true) (hl : us.length ≤ 10) (s : Stop (ahd 0 1 us) (1 + us.length) t) (hT : ((leafs 0 1 us).flatten ++ t).length ≤ 90000) (o : okL t = true) (g : PHeap) :
    Fx.run C (k + 4) 1108 [sv ((leafs 0 1 us).flatten ++ t)] g = .ok (ans us) g := by
  have o1 : okL ((leafs 0 1 us).flatten ++ t) = true := by
    rw [okL_app, o, Bool.and_true]
    exact okL_leafs us 0 1 fun w m => (arew_iff.mp (h w m)).2.2
  have z := words_in has k ((leafs 0 1 us).flatten ++ t) hT o1 rfl g
  rw [words_stop h (by omega) s] at z
  exact z
theorem due_ans (k : Nat) {us vs : List (List Nat)} {t : List Nat} (G : Good (us ++ vs)) (hB : ∀ b B', leafs (ahd 0 1 us) (1 + us.length) vs = b :: B' → ∀ r, t ≠ b ++ r) (hT : t.length ≤ 90000) (o : okL t = true) (g : PHeap) :
    Fx.run C (k + 1) 9004 [.lst ((leafs 0 1 (us ++ vs)).map sv), .tup ((us ++ vs).map sv), sv ((leafs 0 1 us).flatten ++ t)] g = .ok (ans us) g := by
  have f := flat_leafs (us ++ vs) 0 1 (fun w m => (G.word w m).2.1) (by have := G.five; omega)
  have f5 := G.five
  have o1 := okL_leafs (us ++ vs) 0 1 fun w m c q => TS_SG c ((G.word w m).2.2 c q)
  have z := law_due k (leafs 0 1 us) (leafs (ahd 0 1 us) (1 + us.length) vs) ((us ++ vs).map sv) t hB
  rw [← leafs_app] at z
  have f2 : (leafs 0 1 us).flatten.length ≤ 40 * (us ++ vs).length := by
    rw [leafs_app, List.flatten_append, List.length_append] at f
    omega
  have el : ((us ++ vs).map sv).take (leafs 0 1 us).length = us.map sv := by
    rw [len_leafs, List.map_append, ← List.length_map (f := sv), List.take_left]
  have z := z (by omega) (by omega) (by rw [len_leafs]; omega) o1 o (by rw [el]; exact pures_sv us) g
  rw [el] at z
  exact z
/-- where a place of the whole stands -/
theorem place : ∀ (ws : List (List Nat)) (a n q : Nat), q < (leafs a n ws).flatten.length → ∃ us w vs i, ws = us ++ w :: vs ∧ i < (leafBy (ahd a n us) (n + us.length) w).length ∧ q = (leafs a n us).flatten.length + i ∧
    (leafs a n ws).flatten = (leafs a n us).flatten ++ (leafBy (ahd a n us) (n + us.length) w ++ (leafs (own (ahd a n us) (n + us.length) w) (n + us.length + 1) vs).flatten)
  | [], a, n, q, h => by simp [leafs] at h
  | w :: r, a, n, q, h => by
    by_cases c : q < (leafBy a n w).length
    · exact ⟨[], w, r, q, rfl, c, by simp [leafs], by simp [leafs, ahd]⟩
    · have ef : (leafs a n (w :: r)).flatten = leafBy a n w ++ (leafs (own a n w) (n + 1) r).flatten := rfl
      rw [ef, List.length_append] at h
      obtain ⟨us, v, vs, i, e1, e2, e3, e4⟩ := place r (own a n w) (n + 1) (q - (leafBy a n w).length) (by omega)
      have en : n + 1 + us.length = n + (w :: us).length := by simp only [List.length_cons]; omega
      rw [en] at e2 e4
      refine ⟨w :: us, v, vs, i, by rw [e1]; rfl, e2, ?_, ?_⟩
      · show q = (leafBy a n w ++ (leafs (own a n w) (n + 1) us).flatten).length + i
        rw [List.length_append]; omega
      · rw [ef, e4]
        show _ = (leafBy a n w ++ (leafs (own a n w) (n + 1) us).flatten) ++ _
        rw [List.append_assoc]; rfl
theorem stop_nil (a n : Nat) : Stop a n [] := .inl rfl
theorem stop_take {a n i : Nat} {w : List Nat} (hw : ∀ c ∈ w, c ∈ SG) (hi : i < (leafBy a n w).length) : Stop a n ((leafBy a n w).take i) := by
  refine .inl (fnd_not fun m => ?_)
  rw [leaf_body] at m hi
  rw [List.length_append] at hi
  simp only [List.length_cons, List.length_nil] at hi
  rw [List.take_append_of_le_length (by omega)] at m
  exact body_10 hw (List.mem_of_mem_take m)
/-- both sides of a test -/
def Both (k : Nat) (ws : List (List Nat)) (T : List Nat) : Prop := ∃ us : List (List Nat), (∀ w ∈ us, okL w = true) ∧ (∀ g, Fx.run C (k + 4) 1108 [sv T] g = .ok (ans us) g) ∧
  ∀ g, Fx.run C (k + 4) 9004 [.lst ((leafs 0 1 ws).map sv), .tup (ws.map sv), sv T] g = .ok (ans us) g
theorem Good.ok {ws : List (List Nat)} (G : Good ws) : ∀ w ∈ ws, okL w = true := fun w m => okL_SG (arew_iff.mp (G.arew w m)).2.2
/-- a text that goes on otherwise behind the leaves of us -/
theorem both_of (k : Nat) {us vs : List (List Nat)} {t : List Nat} (G : Good (us ++ vs)) (s : Stop (ahd 0 1 us) (1 + us.length) t) (hB : ∀ b B', leafs (ahd 0 1 us) (1 + us.length) vs = b :: B' → ∀ r, t ≠ b ++ r) (hT : t.length ≤ 80000) (o : okL t = true) :
    Both k (us ++ vs) ((leafs 0 1 us).flatten ++ t) := by
  have f := flat_leafs (us ++ vs) 0 1 (fun w m => (G.word w m).2.1) (by have := G.five; omega)
  have f5 := G.five
  have f2 : (leafs 0 1 us).flatten.length ≤ 40 * (us ++ vs).length := by
    rw [leafs_app, List.flatten_append, List.length_append] at f
    omega
  have l5 : us.length ≤ 5 := by rw [List.length_append] at f5; omega
  refine ⟨us, fun w m => G.ok w (List.mem_append_left _ m), fun g => ?_, fun g => ?_⟩
  · exact words_ans k (fun w m => G.arew w (List.mem_append_left _ m)) (by omega) s (by rw [List.length_append]; omega) o g
  · exact due_ans (k + 3) G hB (by omega) o g
theorem leaf_ne {a n : Nat} {w : List Nat} : 0 < (leafBy a n w).length := by rw [leaf_body, List.length_append]; simp
theorem both_take (k : Nat) {ws : List (List Nat)} (G : Good ws) (q : Nat) (hq : q ≤ (leafs 0 1 ws).flatten.length) : Both k ws ((leafs 0 1 ws).flatten.take q) := by
  by_cases c : q < (leafs 0 1 ws).flatten.length
  · obtain ⟨us, w, vs, i, rfl, e2, e3, e4⟩ := place ws 0 1 q c
    have hw := (arew_iff.mp (G.arew w (List.mem_append_right _ (List.mem_cons_self ..)))).2.2
    have et : (leafs 0 1 (us ++ w :: vs)).flatten.take q = (leafs 0 1 us).flatten ++ (leafBy (ahd 0 1 us) (1 + us.length) w).take i := by
      rw [e4, e3, List.take_append, List.take_of_length_le (by omega), show (leafs 0 1 us).flatten.length + i - (leafs 0 1 us).flatten.length = i by omega, List.take_append_of_le_length (by omega)]
    rw [et]
    have l30 := (G.word w (List.mem_append_right _ (List.mem_cons_self ..))).2.1
    have f5 := G.five
    have ll := leaf_len (ahd 0 1 us) (1 + us.length) w (by simp at f5; omega)
    refine both_of k G (stop_take hw e2) ?_ (by rw [List.length_take]; omega) (okL_take _ (okL_leaf hw))
    intro b B' hb r hr
    have eb : b = leafBy (ahd 0 1 us) (1 + us.length) w := by
      have : leafs (ahd 0 1 us) (1 + us.length) (w :: vs) = leafBy (ahd 0 1 us) (1 + us.length) w :: leafs (own (ahd 0 1 us) (1 + us.length) w) (1 + us.length + 1) vs := rfl
      rw [this] at hb
      exact (List.cons.inj hb).1.symm
    have := congrArg List.length hr
    rw [List.length_take, List.length_append, eb] at this
    omega
  · have : q = (leafs 0 1 ws).flatten.length := by omega
    rw [this, List.take_length]
    have z := both_of (us := ws) (vs := []) (t := []) k (by rw [List.append_nil]; exact G) (stop_nil _ _) (fun b B' hb => nomatch hb) (Nat.zero_le _) rfl
    rw [List.append_nil, List.append_nil] at z
    exact z
theorem rest_form {vs : List (List Nat)} (h : ∀ w ∈ vs, arew w = true) (a n : Nat) : (leafs a n vs).flatten = [] ∨ ∃ (a2 n2 : Nat) (w2 R2 : List Nat), arew w2 = true ∧ (leafs a n vs).flatten = bodyBy a2 n2 w2 ++ 10 :: R2 := by
  cases vs with
  | nil => exact .inl rfl
  | cons w r =>
    refine .inr ⟨a, n, w, (leafs (own a n w) (n + 1) r).flatten, h w (List.mem_cons_self ..), ?_⟩
    show leafBy a n w ++ _ = _
    rw [leaf_body, List.append_assoc]; rfl
/-- a leaf l' of the same length in a leaf's place -/
theorem both_leaf (k : Nat) {us vs : List (List Nat)} {w l' : List Nat} (G : Good (us ++ w :: vs)) (hl : l'.length = (leafBy (ahd 0 1 us) (1 + us.length) w).length) (hd : l' ≠ leafBy (ahd 0 1 us) (1 + us.length) w)
    (s : Stop (ahd 0 1 us) (1 + us.length) (l' ++ (leafs (own (ahd 0 1 us) (1 + us.length) w) (1 + us.length + 1) vs).flatten)) (o : okL l' = true) :
    Both k (us ++ w :: vs) ((leafs 0 1 us).flatten ++ (l' ++ (leafs (own (ahd 0 1 us) (1 + us.length) w) (1 + us.length + 1) vs).flatten)) := by
  have l30 := (G.word w (List.mem_append_right _ (List.mem_cons_self ..))).2.1
  have f5 := G.five
  simp only [List.length_append, List.length_cons] at f5
  have ll := leaf_len (ahd 0 1 us) (1 + us.length) w (by omega)
  have fv := flat_leafs vs (own (ahd 0 1 us) (1 + us.length) w) (1 + us.length + 1) (fun u m => (G.word u (List.mem_append_right _ (List.mem_cons_of_mem _ m))).2.1) (by omega)
  refine both_of k G s ?_ (by rw [List.length_append]; omega) ?_
  · intro b B' hb r hr
    have eb : b = leafBy (ahd 0 1 us) (1 + us.length) w := (List.cons.inj hb).1.symm
    have := congrArg (List.take l'.length) hr
    rw [List.take_left, hl, eb, List.take_left] at this
    exact hd this
  · rw [okL_app, o]
    exact okL_leafs vs _ _ fun u m => (arew_iff.mp (G.arew u (List.mem_append_right _ (List.mem_cons_of_mem _ m)))).2.2
theorem both_bent (k : Nat) {ws : List (List Nat)} (G : Good ws) (q x : Nat) (hx : x < 0x110000) (hq : q < (leafs 0 1 ws).flatten.length) : Both k ws ((leafs 0 1 ws).flatten.set q x) := by
  by_cases c : (leafs 0 1 ws).flatten.set q x = (leafs 0 1 ws).flatten
  · rw [c]
    have := both_take k G _ (Nat.le_refl _)
    rw [List.take_length] at this
    exact this
  · obtain ⟨us, w, vs, i, rfl, e2, e3, e4⟩ := place ws 0 1 q hq
    have hw := G.arew w (List.mem_append_right _ (List.mem_cons_self ..))
    have w30 := (G.word w (List.mem_append_right _ (List.mem_cons_self ..))).2.1
    have f5 := G.five
    simp only [List.length_append, List.length_cons] at f5
    have es : (leafs 0 1 (us ++ w :: vs)).flatten.set q x = (leafs 0 1 us).flatten ++ ((leafBy (ahd 0 1 us) (1 + us.length) w).set i x ++ (leafs (own (ahd 0 1 us) (1 + us.length) w) (1 + us.length + 1) vs).flatten) := by
      rw [e4, List.set_append_right _ _ (by omega), List.set_append_left _ _ (by omega), show q - (leafs 0 1 us).flatten.length = i by omega]
    have hd : (leafBy (ahd 0 1 us) (1 + us.length) w).set i x ≠ leafBy (ahd 0 1 us) (1 + us.length) w := fun z => c (by rw [es, z, ← e4])
    rw [es]
    refine both_leaf k G (by rw [List.length_set]) hd ?_ ?_
    · exact stop_bent (by omega) hw (by omega) e2 hd (rest_form (fun u m => G.arew u (List.mem_append_right _ (List.mem_cons_of_mem _ m))) _ _)
    · have := okL_leaf (a := ahd 0 1 us) (n := 1 + us.length) (arew_iff.mp hw).2.2
      unfold okL at this ⊢
      rw [List.all_eq_true] at this ⊢
      intro y my
      rcases List.mem_or_eq_of_mem_set my with m | m
      · exact this y m
      · rw [m]; exact decide_eq_true hx
theorem both_full (k : Nat) {ws : List (List Nat)} (G : Good ws) : Both k ws (leafs 0 1 ws).flatten := by
  have := both_take k G _ (Nat.le_refl _)
  rw [List.take_length] at this
  exact this
theorem both_swap (k : Nat) {us vs : List (List Nat)} {w : List Nat} {i j x y : Nat} (G : Good (us ++ w :: vs)) (hij : i < j) (ex : (leafBy (ahd 0 1 us) (1 + us.length) w)[i]? = some x) (ey : (leafBy (ahd 0 1 us) (1 + us.length) w)[j]? = some y) :
    Both k (us ++ w :: vs) ((leafs 0 1 us).flatten ++ (((leafBy (ahd 0 1 us) (1 + us.length) w).set i y).set j x ++ (leafs (own (ahd 0 1 us) (1 + us.length) w) (1 + us.length + 1) vs).flatten)) := by
  have hw := G.arew w (List.mem_append_right _ (List.mem_cons_self ..))
  have w30 := (G.word w (List.mem_append_right _ (List.mem_cons_self ..))).2.1
  have f5 := G.five
  simp only [List.length_append, List.length_cons] at f5
  have hi := (List.getElem?_eq_some_iff.mp ex).1
  have hj := (List.getElem?_eq_some_iff.mp ey).1
  have okl := okL_leaf (a := ahd 0 1 us) (n := 1 + us.length) (arew_iff.mp hw).2.2
  by_cases c : x = y
  · subst c
    have e1 : (leafBy (ahd 0 1 us) (1 + us.length) w).set i x = leafBy (ahd 0 1 us) (1 + us.length) w := by
      rw [← (List.getElem?_eq_some_iff.mp ex).2]; simp
    have e2 : (leafBy (ahd 0 1 us) (1 + us.length) w).set j x = leafBy (ahd 0 1 us) (1 + us.length) w := by
      rw [← (List.getElem?_eq_some_iff.mp ey).2]; simp
    rw [e1, e2]
    have := both_full k G
    have ef : (leafs 0 1 (us ++ w :: vs)).flatten = (leafs 0 1 us).flatten ++ (leafBy (ahd 0 1 us) (1 + us.length) w ++ (leafs (own (ahd 0 1 us) (1 + us.length) w) (1 + us.length + 1) vs).flatten) := by
      rw [leafs_app, List.flatten_append]; rfl
    rw [ef] at this
    exact this
  · refine both_leaf k G (by rw [List.length_set, List.length_set]) ?_ (stop_swap (by omega) hw (by omega) hij hj ex ey c) ?_
    · intro z
      have : (((leafBy (ahd 0 1 us) (1 + us.length) w).set i y).set j x)[i]? = some y := by
        rw [List.getElem?_set_ne (by omega), List.getElem?_set_self hi]
      rw [z, ex] at this
      exact c (Option.some.inj this)
    · unfold okL at okl ⊢
      rw [List.all_eq_true] at okl ⊢
      intro v mv
      rcases List.mem_or_eq_of_mem_set mv with m | m
      · rcases List.mem_or_eq_of_mem_set m with m | m
        · exact okl v m
        · rw [m]; exact okl y (List.mem_of_getElem? ey)
      · rw [m]; exact okl x (List.mem_of_getElem? ex)
/-- words_in hands back us, whatever stands behind, when another number stands ahead -/
theorem words_other (k : Nat) {us : List (List Nat)} {t : List Nat} (h : ∀ w ∈ us, arew w = true ∧ w.length ≤ 30) (hl : us.length ≤ 8) (hc : t[0]? ≠ some (48 + (1 + us.length))) (hT : t.length ≤ 80000) (o : okL t = true) (g : PHeap) :
    Fx.run C (k + 4) 1108 [sv ((leafs 0 1 us).flatten ++ t)] g = .ok (ans us) g := by
  have f := flat_leafs us 0 1 (fun w m => (h w m).2) (by omega)
  exact words_ans k (fun w m => (h w m).1) (by omega) (stop_first (c := 0) (by omega) hc) (by rw [List.length_append]; omega) o g
theorem leaf_0 {a n : Nat} {w : List Nat} (hn : n < 10) (r : List Nat) : (leafBy a n w ++ r)[0]? = some (48 + n) := by
  rw [leaf_body, body_split, head_beg, beg_1 hn]; rfl
/-- the leaves' places -/
theorem leafs_at {ws : List (List Nat)} {i : Nat} {w : List Nat} (e : ws[i]? = some w) : (leafs 0 1 ws)[i]? = some (leafBy (ahd 0 1 (ws.take i)) (1 + i) w) := by
  have hi := (List.getElem?_eq_some_iff.mp e).1
  have e1 : ws = ws.take i ++ w :: ws.drop (i + 1) := by
    rw [← (List.getElem?_eq_some_iff.mp e).2, ← List.drop_eq_getElem_cons hi, List.take_append_drop]
  have l : (ws.take i).length = i := by rw [List.length_take]; omega
  conv => lhs; rw [e1]
  rw [leafs_app, List.getElem?_append_right (by rw [len_leafs, l]; omega), len_leafs, l, Nat.sub_self]
  rfl
theorem leafs_take (ws : List (List Nat)) (i : Nat) : (leafs 0 1 ws).take i = leafs 0 1 (ws.take i) := by
  by_cases hi : i ≤ ws.length
  · have l : (ws.take i).length = i := by rw [List.length_take]; omega
    conv => lhs; rw [← List.take_append_drop i ws]
    rw [leafs_app]
    have : (leafs 0 1 (ws.take i)).length = i := by rw [len_leafs, l]
    conv => lhs; arg 1; rw [← this]
    rw [List.take_left]
  · rw [List.take_of_length_le (by rw [len_leafs]; omega), List.take_of_length_le (by omega)]
/-- the drawn texts of a turn -/
theorem drawn_texts (k : Nat) {ds : List Int} (D : Drawn ds) (turn : Nat) (ht : turn < 3) : ∃ ws, Good ws ∧ ∀ (s3 s4 s5 s6 s7 s8 s9 s10 s11 s12 s13 s14 s15 s16 s17 : Option PV) (ns : List Int) (h : PHeap),
    evE C (Fx.run C (k + 1)) (.comp (.call 9003 (.cons (.var 1) (.cons (.bin .Add (.bin .Add (.int 7) (.bin .Mult (.int 13) (.var 6))) (.var 2)) .nil))) (.name 6) (.range1 (.bin .Add (.int 1) (.bin .Mod (.bcall .int (.cons (.sub (.var 1) (.bin .Add (.int 3) (.var 2))) .nil)) (.int 5)))) .nil [((PySem.Str.ofString "k"), 6)])
      [some (.scr ns), some (.lst (ds.map .int)), some (.int turn), s3, s4, s5, s6, s7, s8, s9, s10, s11, s12, s13, s14, s15, s16, s17] h = .ok (.lst (ws.map sv)) h := by
  have ln := line24
  have hw := fun j : Int => law_text k D (7 + 13 * j + turn)
  obtain ⟨W, hW⟩ : ∃ W : Int → List Nat, ∀ j, (∀ h, Fx.run C (k + 1) 9003 [.lst (ds.map .int), .int (7 + 13 * j + turn)] h = .ok (sv (W j)) h) ∧ 1 ≤ (W j).length ∧ (W j).length ≤ 30 ∧ ∀ c ∈ W j, c ∈ TS := ⟨fun j => Classical.choose (hw j), fun j => Classical.choose_spec (hw j)⟩
  obtain ⟨d, hd, _⟩ := drawn_at D (3 + turn)
  rw [show ((3 : Int) + turn) % 120 = 3 + turn by omega] at hd
  refine ⟨(List.range (1 + d % 5)).map fun (j : Nat) => W j, ⟨by simp, by simp; omega, fun w m => ?_⟩, fun s3 s4 s5 s6 s7 s8 s9 s10 s11 s12 s13 s14 s15 s16 s17 ns h => ?_⟩
  · obtain ⟨j, _, rfl⟩ := List.mem_map.mp m
    exact (hW j).2
  · have em : (rangeL 0 (1 + d % 5)).map (fun v => match v with
        | PV.int j => sv (W j)
        | v => v) = ((List.range (1 + d % 5)).map fun (j : Nat) => W j).map sv := by
      unfold rangeL
      rw [List.map_map, List.map_map]
      refine List.map_congr_left fun j _ => ?_
      show sv (W (0 + (j : Int))) = sv (W j)
      rw [Int.zero_add]
    rw [← em]
    refine ev_comp (items := rangeL 0 (1 + d % 5)) (w := none) _ (by
      have e : (1 + (d : Int) % 5).toNat = 1 + d % 5 := by omega
      simp (disch := first | assumption | omega | (simp only [List.length_append, List.length_cons, List.length_nil, List.length_take, List.length_drop, List.length_replicate, List.length_map]; omega)) only [startP, List.map_cons, List.map_nil, List.length_cons, List.length_nil, List.replicate_succ, List.replicate_zero, List.cons_append, List.nil_append, Nat.add_zero, Nat.zero_add, Nat.reduceAdd, Nat.reduceSub, Nat.reduceLT, Nat.reduceLeDiff, List.getElem?_cons_succ, List.getElem?_cons_zero, List.set_cons_succ, List.set_cons_zero, bind_ok, bind_exc, calm_ok, lift_some,
      x_var, x_int, x_lit, x_bl, x_non, x_bin, x_neg, x_cmp, x_chain, x_bool, x_not, x_ite, x_call, x_bcall, x_isi, x_meth, x_tup, x_listT, x_listF, x_sub, x_slice, x_nil, x_cons, x_onone, x_osome, x_tnil, x_tcons, x_b1, x_and, x_or, x_seq, x_range1, x_range2, x_enum,
      s_nil, s_cons, s_expr, s_ret, s_retN, s_asg, s_par, s_aug, s_if, s_raise, s_try, s_pass, s_brk, s_cont, h_nil, h_cons, tru_bl, b_add, b_sub, b_addI, b_mulI, b_mod, b_fdiv, a_addI, a_subI, c_eq, c_ne, c_lt, c_le, c_gt, c_ge, c_in, c_nin, c_isN, c_isnotN, eq_int, bindN, bindTp, setA0, setA1, omap, Option.map_some, Option.map_none, add_sv, aug_sv, len_sv, sub_sv, cut_sv, find_sv, find3_sv, index_sv, in_sv, r_index, r_rjust, r_find, r_find3, r_join, if_true, bx, nx, nxc, tx, ny_next, ny_cont, ny_brk, ny_ret, ny_exc, len_app, len_lst, len_tup, tuple_lst, r_app, append_app, add_tup, add_lst, sub_tup, sub_lst, slice_tup, slice_lst, at_0, at_1, at_2, at_3, at_m1, rg1_ok, rg2_ok, Int.toNat_natCast, int_int, abs_int, min_int, max_int, slice_scr, hd, e]) (fun _ => rfl) (by
      intro x hx acc
      obtain ⟨j, hj⟩ := List.mem_iff_getElem?.mp hx
      obtain ⟨rfl, hj⟩ := rangeL_at _ _ _ hj
      refine ⟨_, rfl, ?_⟩
      simp (disch := first | assumption | omega | (simp only [List.length_append, List.length_cons, List.length_nil, List.length_take, List.length_drop, List.length_replicate, List.length_map]; omega)) only [startP, List.map_cons, List.map_nil, List.length_cons, List.length_nil, List.replicate_succ, List.replicate_zero, List.cons_append, List.nil_append, Nat.add_zero, Nat.zero_add, Nat.reduceAdd, Nat.reduceSub, Nat.reduceLT, Nat.reduceLeDiff, List.getElem?_cons_succ, List.getElem?_cons_zero, List.set_cons_succ, List.set_cons_zero, bind_ok, bind_exc, calm_ok, lift_some,
      x_var, x_int, x_lit, x_bl, x_non, x_bin, x_neg, x_cmp, x_chain, x_bool, x_not, x_ite, x_call, x_bcall, x_isi, x_meth, x_tup, x_listT, x_listF, x_sub, x_slice, x_nil, x_cons, x_onone, x_osome, x_tnil, x_tcons, x_b1, x_and, x_or, x_seq, x_range1, x_range2, x_enum,
      s_nil, s_cons, s_expr, s_ret, s_retN, s_asg, s_par, s_aug, s_if, s_raise, s_try, s_pass, s_brk, s_cont, h_nil, h_cons, tru_bl, b_add, b_sub, b_addI, b_mulI, b_mod, b_fdiv, a_addI, a_subI, c_eq, c_ne, c_lt, c_le, c_gt, c_ge, c_in, c_nin, c_isN, c_isnotN, eq_int, bindN, bindTp, setA0, setA1, omap, Option.map_some, Option.map_none, add_sv, aug_sv, len_sv, sub_sv, cut_sv, find_sv, find3_sv, index_sv, in_sv, r_index, r_rjust, r_find, r_find3, r_join, if_true, bx, nx, nxc, tx, ny_next, ny_cont, ny_brk, ny_ret, ny_exc, len_app, len_lst, len_tup, tuple_lst, r_app, append_app, add_tup, add_lst, sub_tup, sub_lst, slice_tup, slice_lst, at_0, at_1, at_2, at_3, at_m1, rg1_ok, rg2_ok, Int.toNat_natCast, int_int, abs_int, min_int, max_int, slice_scr, wipeP, (hW j).1]) (by rw [ln, rangeL_n]; omega) (by
      intro x hx
      obtain ⟨j, hj⟩ := List.mem_iff_getElem?.mp hx
      obtain ⟨rfl, hj⟩ := rangeL_at _ _ _ hj
      rfl)
end K54
end
section
set_option Elab.async false
set_option linter.all false
set_option maxRecDepth 100000
namespace K54
open PySem Fx
def b0_0 : IS := (.ifS (.cmp .NotEq (.call 9005 (.cons (.int 0) (.cons (.var 16) .nil))) (.str (PySem.Str.ofString "words"))) (.cons (.ret (.bl false)) .nil) .nil)
theorem b0_eq : f_law_b0 = .cons b0_0 (.nil) := rfl
def b1_0 : IS := (.asg (.name 15) (.bin .Add (.bin .Add (.bin .Add (.var 14) (.str (PySem.Str.ofString "#"))) (.meth .join (.str (PySem.Str.ofString "")) (.cons (.comp (.slice (.bcall .str (.cons (.bin .FloorDiv (.call 9001 (.cons (.int 0) (.cons (.var 14) .nil))) (.var 17)) .nil)) (.some (.neg (.int 1))) .none) (.name 17) (.seq (.list false (.cons (.int 10000) (.cons (.int 1000) (.cons (.int 100) (.cons (.int 10) (.cons (.int 1) .nil))))))) .nil [((PySem.Str.ofString "size"), 17)]) .nil))) (.str (PySem.Str.ofString "\n"))))
def b1_1 : IS := (.ifS (.bool .And (.cons (.cmp .NotEq (.call 1108 (.cons (.var 15) .nil)) (.tup (.cons (.tup .nil) (.cons (.int 0) .nil)))) (.cons (.bool .Or (.cons (.cmp .NotEq (.var 14) (.bin .Add (.str (PySem.Str.ofString "1 ")) (.sub (.var 3) (.int 0)))) (.cons (.cmp .NotEq (.slice (.sub (.var 3) (.int 0)) (.some (.neg (.int 1))) .none) (.str (PySem.Str.ofString " "))) (.cons (.cmp .Lt (.bcall .len (.cons (.sub (.var 3) (.int 0)) .nil)) (.int 2)) .nil)))) .nil))) (.cons (.ret (.bl false)) .nil) .nil)
theorem b1_eq : f_law_b1 = .cons b1_0 (.cons b1_1 (.nil)) := rfl
def b2_0 : IS := (.asg (.name 10) (.meth .join (.str (PySem.Str.ofString "")) (.cons (.bin .Add (.bin .Add (.bin .Add (.bin .Add (.slice (.var 4) .none (.some (.var 6))) (.list false (.cons (.sub (.var 4) (.var 7)) .nil))) (.slice (.var 4) (.some (.bin .Add (.var 6) (.int 1))) (.some (.var 7)))) (.list false (.cons (.sub (.var 4) (.var 6)) .nil))) (.slice (.var 4) (.some (.bin .Add (.var 7) (.int 1))) .none)) .nil)))
def b2_1 : IS := (.ifS (.cmp .NotEq (.call 1108 (.cons (.var 10) .nil)) (.tup (.cons (.slice (.var 3) .none (.some (.var 6))) (.cons (.bcall .len (.cons (.meth .join (.str (PySem.Str.ofString "")) (.cons (.slice (.var 4) .none (.some (.var 6))) .nil)) .nil)) .nil)))) (.cons (.ret (.bl false)) .nil) .nil)
theorem b2_eq : f_law_b2 = .cons b2_0 (.cons b2_1 (.nil)) := rfl
def b3_0 : IS := (.forS (.name 7) (.range2 (.bin .Add (.var 6) (.int 1)) (.bcall .len (.cons (.var 4) .nil))) f_law_b2)
def b3_1 : IS := (.ifS (.cmp .NotEq (.call 1108 (.cons (.meth .join (.str (PySem.Str.ofString "")) (.cons (.bin .Add (.slice (.var 4) .none (.some (.bin .Add (.var 6) (.int 1)))) (.slice (.var 4) (.some (.var 6)) .none)) .nil)) .nil)) (.tup (.cons (.slice (.var 3) .none (.some (.bin .Add (.var 6) (.int 1)))) (.cons (.bcall .len (.cons (.meth .join (.str (PySem.Str.ofString "")) (.cons (.slice (.var 4) .none (.some (.bin .Add (.var 6) (.int 1)))) .nil)) .nil)) .nil)))) (.cons (.ret (.bl false)) .nil) .nil)
def b3_2 : IS := (.ifS (.bool .And (.cons (.cmp .Lt (.var 6) (.bin .Sub (.bcall .len (.cons (.var 4) .nil)) (.int 1))) (.cons (.cmp .NotEq (.call 1108 (.cons (.meth .join (.str (PySem.Str.ofString "")) (.cons (.bin .Add (.slice (.var 4) .none (.some (.var 6))) (.slice (.var 4) (.some (.bin .Add (.var 6) (.int 1))) .none)) .nil)) .nil)) (.tup (.cons (.slice (.var 3) .none (.some (.var 6))) (.cons (.bcall .len (.cons (.meth .join (.str (PySem.Str.ofString "")) (.cons (.slice (.var 4) .none (.some (.var 6))) .nil)) .nil)) .nil)))) .nil))) (.cons (.ret (.bl false)) .nil) .nil)
theorem b3_eq : f_law_b3 = .cons b3_0 (.cons b3_1 (.cons b3_2 (.nil))) := rfl
def b4_0 : IS := (.asg (.name 8) (.bin .Mod (.bcall .int (.cons (.sub (.var 1) (.bin .Mod (.bin .Add (.bin .Add (.int 10) (.bin .Mult (.int 2) (.var 7))) (.var 2)) (.int 120))) .nil)) (.bcall .len (.cons (.var 5) .nil))))
def b4_1 : IS := (.asg (.name 9) (.sub (.str (PySem.Str.ofString "abz019()+-*<=,:; #\nAX\"{}[]?/|")) (.bin .Mod (.bcall .int (.cons (.sub (.var 1) (.bin .Mod (.bin .Add (.bin .Add (.int 11) (.bin .Mult (.int 2) (.var 7))) (.var 2)) (.int 120))) .nil)) (.int 29))))
def b4_2 : IS := (.asg (.name 10) (.bin .Add (.bin .Add (.slice (.var 5) .none (.some (.var 8))) (.var 9)) (.slice (.var 5) (.some (.bin .Add (.var 8) (.int 1))) .none)))
def b4_3 : IS := (.ifS (.cmp .NotEq (.call 1108 (.cons (.var 10) .nil)) (.call 9004 (.cons (.var 4) (.cons (.var 3) (.cons (.var 10) .nil))))) (.cons (.ret (.bl false)) .nil) .nil)
def b4_4 : IS := (.asg (.name 6) (.bin .Mod (.bcall .int (.cons (.sub (.var 1) (.bin .Mod (.bin .Add (.bin .Add (.int 60) (.var 7)) (.var 2)) (.int 120))) .nil)) (.bcall .len (.cons (.var 4) .nil))))
def b4_5 : IS := (.par 11 12 (.bin .Mod (.bcall .int (.cons (.sub (.var 1) (.bin .Mod (.bin .Add (.bin .Add (.int 61) (.var 7)) (.var 2)) (.int 120))) .nil)) (.bcall .len (.cons (.sub (.var 4) (.var 6)) .nil))) (.bin .Mod (.bcall .int (.cons (.sub (.var 1) (.bin .Mod (.bin .Add (.bin .Add (.int 62) (.var 7)) (.var 2)) (.int 120))) .nil)) (.bcall .len (.cons (.sub (.var 4) (.var 6)) .nil))))
def b4_6 : IS := (.par 11 12 (.bcall .min (.cons (.var 11) (.cons (.var 12) .nil))) (.bcall .max (.cons (.var 11) (.cons (.var 12) .nil))))
def b4_7 : IS := (.asg (.name 13) (.ite (.cmp .Lt (.var 11) (.var 12)) (.bin .Add (.bin .Add (.bin .Add (.bin .Add (.slice (.sub (.var 4) (.var 6)) .none (.some (.var 11))) (.sub (.sub (.var 4) (.var 6)) (.var 12))) (.slice (.sub (.var 4) (.var 6)) (.some (.bin .Add (.var 11) (.int 1))) (.some (.var 12)))) (.sub (.sub (.var 4) (.var 6)) (.var 11))) (.slice (.sub (.var 4) (.var 6)) (.some (.bin .Add (.var 12) (.int 1))) .none)) (.sub (.var 4) (.var 6))))
def b4_8 : IS := (.asg (.name 10) (.bin .Add (.bin .Add (.meth .join (.str (PySem.Str.ofString "")) (.cons (.slice (.var 4) .none (.some (.var 6))) .nil)) (.var 13)) (.meth .join (.str (PySem.Str.ofString "")) (.cons (.slice (.var 4) (.some (.bin .Add (.var 6) (.int 1))) .none) .nil))))
def b4_9 : IS := (.ifS (.cmp .NotEq (.call 1108 (.cons (.var 10) .nil)) (.call 9004 (.cons (.var 4) (.cons (.var 3) (.cons (.var 10) .nil))))) (.cons (.ret (.bl false)) .nil) .nil)
theorem b4_eq : f_law_b4 = .cons b4_0 (.cons b4_1 (.cons b4_2 (.cons b4_3 (.cons b4_4 (.cons b4_5 (.cons b4_6 (.cons b4_7 (.cons b4_8 (.cons b4_9 (.nil)))))))))) := rfl
def b5_0 : IS := (.ifS (.cmp .NotEq (.call 1108 (.cons (.slice (.var 5) .none (.some (.var 6))) .nil)) (.call 9004 (.cons (.var 4) (.cons (.var 3) (.cons (.slice (.var 5) .none (.some (.var 6))) .nil))))) (.cons (.ret (.bl false)) .nil) .nil)
theorem b5_eq : f_law_b5 = .cons b5_0 (.nil) := rfl
def b6_0 : IS := (.asg (.name 3) (.bcall .tuple (.cons (.comp (.call 9003 (.cons (.var 1) (.cons (.bin .Add (.bin .Add (.int 7) (.bin .Mult (.int 13) (.var 6))) (.var 2)) .nil))) (.name 6) (.range1 (.bin .Add (.int 1) (.bin .Mod (.bcall .int (.cons (.sub (.var 1) (.bin .Add (.int 3) (.var 2))) .nil)) (.int 5)))) .nil [((PySem.Str.ofString "k"), 6)]) .nil)))
def b6_1 : IS := (.asg (.name 4) (.call 9002 (.cons (.var 3) .nil)))
def b6_2 : IS := (.asg (.name 5) (.meth .join (.str (PySem.Str.ofString "")) (.cons (.var 4) .nil)))
def b6_3 : IS := (.ifS (.bool .Or (.cons (.cmp .NotEq (.call 1104 (.cons (.var 3) .nil)) (.var 5)) (.cons (.cmp .NotEq (.call 1108 (.cons (.var 5) .nil)) (.tup (.cons (.var 3) (.cons (.bcall .len (.cons (.var 5) .nil)) .nil)))) .nil))) (.cons (.ret (.bl false)) .nil) .nil)
def b6_4 : IS := (.forS (.name 6) (.range1 (.bin .Add (.bcall .len (.cons (.var 5) .nil)) (.int 1))) f_law_b5)
def b6_5 : IS := (.forS (.name 7) (.range1 (.int 40)) f_law_b4)
def b6_6 : IS := (.forS (.name 6) (.range1 (.bcall .len (.cons (.var 4) .nil))) f_law_b3)
def b6_7 : IS := (.forS (.name 14) (.seq (.list false (.cons (.bin .Add (.bin .Add (.str (PySem.Str.ofString "01 ")) (.sub (.var 3) (.int 0))) (.str (PySem.Str.ofString " "))) (.cons (.bin .Add (.str (PySem.Str.ofString "1 ")) (.sub (.var 3) (.int 0))) (.cons (.bin .Add (.bin .Add (.str (PySem.Str.ofString " ")) (.sub (.var 3) (.int 0))) (.str (PySem.Str.ofString " "))) (.cons (.str (PySem.Str.ofString "1  ")) (.cons (.bin .Add (.bin .Add (.str (PySem.Str.ofString "2 ")) (.sub (.var 3) (.int 0))) (.str (PySem.Str.ofString " "))) (.cons (.bin .Add (.bin .Add (.str (PySem.Str.ofString "x ")) (.sub (.var 3) (.int 0))) (.str (PySem.Str.ofString " "))) (.cons (.bin .Add (.bin .Add (.str (PySem.Str.ofString "-1 ")) (.sub (.var 3) (.int 0))) (.str (PySem.Str.ofString " "))) .nil))))))))) f_law_b1)
theorem b6_eq : f_law_b6 = .cons b6_0 (.cons b6_1 (.cons b6_2 (.cons b6_3 (.cons b6_4 (.cons b6_5 (.cons b6_6 (.cons b6_7 (.nil)))))))) := rfl
def w_0 : IS := (.asg (.name 1) (.call 9000 (.cons (.var 0) (.cons (.int 120) .nil))))
def w_1 : IS := (.forS (.name 2) (.range1 (.int 3)) f_law_b6)
def w_2 : IS := (.forS (.name 16) (.seq (.list false (.cons .non (.cons (.str (PySem.Str.ofString "a")) (.cons (.list false (.cons (.str (PySem.Str.ofString "a")) .nil)) (.cons (.tup (.cons (.str (PySem.Str.ofString "")) .nil)) (.cons (.tup (.cons (.str (PySem.Str.ofString "A")) .nil)) (.cons (.tup (.cons (.str (PySem.Str.ofString "a\n")) .nil)) (.cons (.tup (.cons (.str (PySem.Str.ofString "#")) .nil)) (.cons (.tup (.cons .non .nil)) (.cons (.tup (.cons (.bin .Mult (.str (PySem.Str.ofString "a")) (.int 20001)) .nil)) .nil))))))))))) f_law_b0)
def w_3 : IS := (.ifS (.bool .Or (.cons (.cmp .NotEq (.comp (.call 9005 (.cons (.int 1) (.cons (.var 16) .nil))) (.name 16) (.seq (.list false (.cons .non (.cons (.int 5) (.cons (.tup (.cons (.str (PySem.Str.ofString "a")) .nil)) .nil))))) .nil [((PySem.Str.ofString "wrong"), 16)]) (.bin .Mult (.list false (.cons (.str (PySem.Str.ofString "text")) .nil)) (.int 3))) (.cons (.cmp .NotEq (.call 1104 (.cons (.tup .nil) .nil)) (.str (PySem.Str.ofString ""))) (.cons (.cmp .NotEq (.call 1108 (.cons (.str (PySem.Str.ofString "")) .nil)) (.tup (.cons (.tup .nil) (.cons (.int 0) .nil)))) .nil)))) (.cons (.ret (.bl false)) .nil) .nil)
def w_4 : IS := (.ret (.bool .And (.cons (.cmp .Eq (.call 1108 (.cons (.call 1104 (.cons (.tup (.cons (.bin .Mult (.str (PySem.Str.ofString "a")) (.int 20000)) .nil)) .nil)) .nil)) (.tup (.cons (.tup (.cons (.bin .Mult (.str (PySem.Str.ofString "a")) (.int 20000)) .nil)) (.cons (.int 20010) .nil)))) (.cons (.cmp .Eq (.call 1108 (.cons (.str (PySem.Str.ofString "hello\n")) .nil)) (.tup (.cons (.tup .nil) (.cons (.int 0) .nil)))) .nil))))
theorem w_eq : f_law.body = .cons w_0 (.cons w_1 (.cons w_2 (.cons w_3 (.cons w_4 (.nil))))) := rfl
end K54
end
section
set_option Elab.async false
set_option linter.all false
set_option maxRecDepth 100000
set_option maxHeartbeats 1000000
/-! the turn, one statement after another. -/
namespace K54
open PySem Fx Lv
open SX (S)
open L2 (atI)
theorem do1 {ds : List Int} {ws : List (List Nat)} {call : Nat → List PV → PHeap → Res PV} {ns : List Int} {i : Nat} {s3 s4 s5 s6 s7 s8 s9 s10 s11 s12 s13 s14 s15 s16 s17 : Option PV} {h : PHeap}
    (dt : evE C call (.comp (.call 9003 (.cons (.var 1) (.cons (.bin .Add (.bin .Add (.int 7) (.bin .Mult (.int 13) (.var 6))) (.var 2)) .nil))) (.name 6) (.range1 (.bin .Add (.int 1) (.bin .Mod (.bcall .int (.cons (.sub (.var 1) (.bin .Add (.int 3) (.var 2))) .nil)) (.int 5)))) .nil [((PySem.Str.ofString "k"), 6)])
      [some (.scr ns), some (.lst (ds.map .int)), some (.int i), s3, s4, s5, s6, s7, s8, s9, s10, s11, s12, s13, s14, s15, s16, s17] h = .ok (.lst (ws.map sv)) h) :
    evS C call b6_0 [some (.scr ns), some (.lst (ds.map .int)), some (.int i), s3, s4, s5, s6, s7, s8, s9, s10, s11, s12, s13, s14, s15, s16, s17] h = .next [some (.scr ns), some (.lst (ds.map .int)), some (.int i), some (.tup (ws.map sv)), s4, s5, s6, s7, s8, s9, s10, s11, s12, s13, s14, s15, s16, s17] h := by
  unfold b6_0
  simp (disch := first | assumption | omega | (simp only [List.length_append, List.length_cons, List.length_nil, List.length_take, List.length_drop, List.length_replicate, List.length_map]; omega)) only [startP, List.map_cons, List.map_nil, List.length_cons, List.length_nil, List.replicate_succ, List.replicate_zero, List.cons_append, List.nil_append, Nat.add_zero, Nat.zero_add, Nat.reduceAdd, Nat.reduceSub, Nat.reduceLT, Nat.reduceLeDiff, List.getElem?_cons_succ, List.getElem?_cons_zero, List.set_cons_succ, List.set_cons_zero, bind_ok, bind_exc, calm_ok, lift_some,
      x_var, x_int, x_lit, x_bl, x_non, x_bin, x_neg, x_cmp, x_chain, x_bool, x_not, x_ite, x_call, x_bcall, x_isi, x_meth, x_tup, x_listT, x_listF, x_sub, x_slice, x_nil, x_cons, x_onone, x_osome, x_tnil, x_tcons, x_b1, x_and, x_or, x_seq, x_range1, x_range2, x_enum,
      s_nil, s_cons, s_expr, s_ret, s_retN, s_asg, s_par, s_aug, s_if, s_raise, s_try, s_pass, s_brk, s_cont, h_nil, h_cons, tru_bl, b_add, b_sub, b_addI, b_mulI, b_mod, b_fdiv, a_addI, a_subI, c_eq, c_ne, c_lt, c_le, c_gt, c_ge, c_in, c_nin, c_isN, c_isnotN, eq_int, bindN, bindTp, setA0, setA1, omap, Option.map_some, Option.map_none, add_sv, aug_sv, len_sv, sub_sv, cut_sv, find_sv, find3_sv, index_sv, in_sv, r_index, r_rjust, r_find, r_find3, r_join, if_true, bx, nx, nxc, tx, ny_next, ny_cont, ny_brk, ny_ret, ny_exc, len_app, len_lst, len_tup, tuple_lst, r_app, append_app, add_tup, add_lst, sub_tup, sub_lst, slice_tup, slice_lst, at_0, at_1, at_2, at_3, at_m1, rg1_ok, rg2_ok, Int.toNat_natCast, int_int, abs_int, min_int, max_int, slice_scr, dt]
section
variable {ws : List (List Nat)} {call : Nat → List PV → PHeap → Res PV} {s0 s1 s2 s4 s5 s6 s7 s8 s9 s10 s11 s12 s13 s14 s15 s16 s17 : Option PV} {h : PHeap}
theorem do2 {ls : List (List Nat)} (lv : call 9002 [.tup (ws.map sv)] h = .ok (.lst (ls.map sv)) h) :
    evS C call b6_1 [s0, s1, s2, some (.tup (ws.map sv)), s4, s5, s6, s7, s8, s9, s10, s11, s12, s13, s14, s15, s16, s17] h = .next [s0, s1, s2, some (.tup (ws.map sv)), some (.lst (ls.map sv)), s5, s6, s7, s8, s9, s10, s11, s12, s13, s14, s15, s16, s17] h := by
  unfold b6_1
  simp (disch := first | assumption | omega | (simp only [List.length_append, List.length_cons, List.length_nil, List.length_take, List.length_drop, List.length_replicate, List.length_map]; omega)) only [startP, List.map_cons, List.map_nil, List.length_cons, List.length_nil, List.replicate_succ, List.replicate_zero, List.cons_append, List.nil_append, Nat.add_zero, Nat.zero_add, Nat.reduceAdd, Nat.reduceSub, Nat.reduceLT, Nat.reduceLeDiff, List.getElem?_cons_succ, List.getElem?_cons_zero, List.set_cons_succ, List.set_cons_zero, bind_ok, bind_exc, calm_ok, lift_some,
      x_var, x_int, x_lit, x_bl, x_non, x_bin, x_neg, x_cmp, x_chain, x_bool, x_not, x_ite, x_call, x_bcall, x_isi, x_meth, x_tup, x_listT, x_listF, x_sub, x_slice, x_nil, x_cons, x_onone, x_osome, x_tnil, x_tcons, x_b1, x_and, x_or, x_seq, x_range1, x_range2, x_enum,
      s_nil, s_cons, s_expr, s_ret, s_retN, s_asg, s_par, s_aug, s_if, s_raise, s_try, s_pass, s_brk, s_cont, h_nil, h_cons, tru_bl, b_add, b_sub, b_addI, b_mulI, b_mod, b_fdiv, a_addI, a_subI, c_eq, c_ne, c_lt, c_le, c_gt, c_ge, c_in, c_nin, c_isN, c_isnotN, eq_int, bindN, bindTp, setA0, setA1, omap, Option.map_some, Option.map_none, add_sv, aug_sv, len_sv, sub_sv, cut_sv, find_sv, find3_sv, index_sv, in_sv, r_index, r_rjust, r_find, r_find3, r_join, if_true, bx, nx, nxc, tx, ny_next, ny_cont, ny_brk, ny_ret, ny_exc, len_app, len_lst, len_tup, tuple_lst, r_app, append_app, add_tup, add_lst, sub_tup, sub_lst, slice_tup, slice_lst, at_0, at_1, at_2, at_3, at_m1, rg1_ok, rg2_ok, Int.toNat_natCast, int_int, abs_int, min_int, max_int, slice_scr, lv]
theorem do3 {ls : List (List Nat)} (W16 : ls.flatten.length ≤ 16777216) {s3 : Option PV} :
    evS C call b6_2 [s0, s1, s2, s3, some (.lst (ls.map sv)), s5, s6, s7, s8, s9, s10, s11, s12, s13, s14, s15, s16, s17] h = .next [s0, s1, s2, s3, some (.lst (ls.map sv)), some (sv ls.flatten), s6, s7, s8, s9, s10, s11, s12, s13, s14, s15, s16, s17] h := by
  unfold b6_2
  have jn := join_sv h (.lst (ls.map sv)) ls rfl W16
  simp (disch := first | assumption | omega | (simp only [List.length_append, List.length_cons, List.length_nil, List.length_take, List.length_drop, List.length_replicate, List.length_map]; omega)) only [startP, List.map_cons, List.map_nil, List.length_cons, List.length_nil, List.replicate_succ, List.replicate_zero, List.cons_append, List.nil_append, Nat.add_zero, Nat.zero_add, Nat.reduceAdd, Nat.reduceSub, Nat.reduceLT, Nat.reduceLeDiff, List.getElem?_cons_succ, List.getElem?_cons_zero, List.set_cons_succ, List.set_cons_zero, bind_ok, bind_exc, calm_ok, lift_some,
      x_var, x_int, x_lit, x_bl, x_non, x_bin, x_neg, x_cmp, x_chain, x_bool, x_not, x_ite, x_call, x_bcall, x_isi, x_meth, x_tup, x_listT, x_listF, x_sub, x_slice, x_nil, x_cons, x_onone, x_osome, x_tnil, x_tcons, x_b1, x_and, x_or, x_seq, x_range1, x_range2, x_enum,
      s_nil, s_cons, s_expr, s_ret, s_retN, s_asg, s_par, s_aug, s_if, s_raise, s_try, s_pass, s_brk, s_cont, h_nil, h_cons, tru_bl, b_add, b_sub, b_addI, b_mulI, b_mod, b_fdiv, a_addI, a_subI, c_eq, c_ne, c_lt, c_le, c_gt, c_ge, c_in, c_nin, c_isN, c_isnotN, eq_int, bindN, bindTp, setA0, setA1, omap, Option.map_some, Option.map_none, add_sv, aug_sv, len_sv, sub_sv, cut_sv, find_sv, find3_sv, index_sv, in_sv, r_index, r_rjust, r_find, r_find3, r_join, if_true, bx, nx, nxc, tx, ny_next, ny_cont, ny_brk, ny_ret, ny_exc, len_app, len_lst, len_tup, tuple_lst, r_app, append_app, add_tup, add_lst, sub_tup, sub_lst, slice_tup, slice_lst, at_0, at_1, at_2, at_3, at_m1, rg1_ok, rg2_ok, Int.toNat_natCast, int_int, abs_int, min_int, max_int, slice_scr, l_nil, jn]
theorem do4 {W : List Nat} (hW : W.length ≤ 16777216) (oW : okL W = true) (ow : ∀ w ∈ ws, okL w = true) (lo : call 1104 [.tup (ws.map sv)] h = .ok (sv W) h) (wi : call 1108 [sv W] h = .ok (.tup [.tup (ws.map sv), .int (W.length : Nat)]) h) :
    evS C call b6_3 [s0, s1, s2, some (.tup (ws.map sv)), s4, some (sv W), s6, s7, s8, s9, s10, s11, s12, s13, s14, s15, s16, s17] h = .next [s0, s1, s2, some (.tup (ws.map sv)), s4, some (sv W), s6, s7, s8, s9, s10, s11, s12, s13, s14, s15, s16, s17] h := by
  unfold b6_3
  have ln := line24
  have q1 : eqV h (sv W) (sv W) = some true := by rw [eq_sv h W W oW oW]; simp
  have cl : PV.cl (.tup [.tup (ws.map sv), .int (W.length : Nat)]) 60 = true := by
    show (PV.cl (.tup (ws.map sv)) 59 && (true && true)) = true
    rw [Bool.and_true, Bool.and_true]
    exact cls_sv ws 58 ow
  have q2 : eqV h (.tup [.tup (ws.map sv), .int (W.length : Nat)]) (.tup [.tup (ws.map sv), .int (W.length : Nat)]) = some true := by rw [eq_cl h _ _ cl cl]; simp
  simp (disch := first | assumption | omega | (simp only [List.length_append, List.length_cons, List.length_nil, List.length_take, List.length_drop, List.length_replicate, List.length_map]; omega)) only [startP, List.map_cons, List.map_nil, List.length_cons, List.length_nil, List.replicate_succ, List.replicate_zero, List.cons_append, List.nil_append, Nat.add_zero, Nat.zero_add, Nat.reduceAdd, Nat.reduceSub, Nat.reduceLT, Nat.reduceLeDiff, List.getElem?_cons_succ, List.getElem?_cons_zero, List.set_cons_succ, List.set_cons_zero, bind_ok, bind_exc, calm_ok, lift_some,
      x_var, x_int, x_lit, x_bl, x_non, x_bin, x_neg, x_cmp, x_chain, x_bool, x_not, x_ite, x_call, x_bcall, x_isi, x_meth, x_tup, x_listT, x_listF, x_sub, x_slice, x_nil, x_cons, x_onone, x_osome, x_tnil, x_tcons, x_b1, x_and, x_or, x_seq, x_range1, x_range2, x_enum,
      s_nil, s_cons, s_expr, s_ret, s_retN, s_asg, s_par, s_aug, s_if, s_raise, s_try, s_pass, s_brk, s_cont, h_nil, h_cons, tru_bl, b_add, b_sub, b_addI, b_mulI, b_mod, b_fdiv, a_addI, a_subI, c_eq, c_ne, c_lt, c_le, c_gt, c_ge, c_in, c_nin, c_isN, c_isnotN, eq_int, bindN, bindTp, setA0, setA1, omap, Option.map_some, Option.map_none, add_sv, aug_sv, len_sv, sub_sv, cut_sv, find_sv, find3_sv, index_sv, in_sv, r_index, r_rjust, r_find, r_find3, r_join, if_true, bx, nx, nxc, tx, ny_next, ny_cont, ny_brk, ny_ret, ny_exc, len_app, len_lst, len_tup, tuple_lst, r_app, append_app, add_tup, add_lst, sub_tup, sub_lst, slice_tup, slice_lst, at_0, at_1, at_2, at_3, at_m1, rg1_ok, rg2_ok, Int.toNat_natCast, int_int, abs_int, min_int, max_int, slice_scr, lo, q1, Bool.not_true, wi, q2]
end
/-- the test passes -/
theorem test_both {ws : List (List Nat)} {T : List Nat} (b : Both 36 ws T) : ∃ v : PV, (∀ g, Fx.run C 40 1108 [sv T] g = .ok v g) ∧ (∀ g, Fx.run C 40 9004 [.lst ((leafs 0 1 ws).map sv), .tup (ws.map sv), sv T] g = .ok v g) ∧ ∀ g, eqV g v v = some true := by
  obtain ⟨us, h1, h2, h3⟩ := b
  exact ⟨ans us, h2, h3, fun g => ans_eq g h1⟩
section
variable {ws : List (List Nat)} {s0 s1 s2 s6 s7 s8 s9 s10 s11 s12 s13 s14 s15 s16 s17 : Option PV} {h : PHeap}
theorem do5 (G : Good ws) : ∃ s6' : Option PV, evS C (Fx.run C 40) b6_4 [s0, s1, s2, some (.tup (ws.map sv)), some (.lst ((leafs 0 1 ws).map sv)), some (sv (leafs 0 1 ws).flatten), s6, s7, s8, s9, s10, s11, s12, s13, s14, s15, s16, s17] h =
    .next [s0, s1, s2, some (.tup (ws.map sv)), some (.lst ((leafs 0 1 ws).map sv)), some (sv (leafs 0 1 ws).flatten), s6', s7, s8, s9, s10, s11, s12, s13, s14, s15, s16, s17] h := by
  have ln := line24
  have f5 := G.five
  have fl := flat_leafs ws 0 1 (fun w m => (G.word w m).2.1) (by omega)
  have e1 : (((leafs 0 1 ws).flatten.length : Nat) : Int) + 1 = (((leafs 0 1 ws).flatten.length + 1 : Nat) : Int) := by omega
  unfold b6_4
  simp (disch := first | assumption | omega | (simp only [List.length_append, List.length_cons, List.length_nil, List.length_take, List.length_drop, List.length_replicate, List.length_map]; omega)) only [startP, List.map_cons, List.map_nil, List.length_cons, List.length_nil, List.replicate_succ, List.replicate_zero, List.cons_append, List.nil_append, Nat.add_zero, Nat.zero_add, Nat.reduceAdd, Nat.reduceSub, Nat.reduceLT, Nat.reduceLeDiff, List.getElem?_cons_succ, List.getElem?_cons_zero, List.set_cons_succ, List.set_cons_zero, bind_ok, bind_exc, calm_ok, lift_some,
      x_var, x_int, x_lit, x_bl, x_non, x_bin, x_neg, x_cmp, x_chain, x_bool, x_not, x_ite, x_call, x_bcall, x_isi, x_meth, x_tup, x_listT, x_listF, x_sub, x_slice, x_nil, x_cons, x_onone, x_osome, x_tnil, x_tcons, x_b1, x_and, x_or, x_seq, x_range1, x_range2, x_enum,
      s_nil, s_cons, s_expr, s_ret, s_retN, s_asg, s_par, s_aug, s_if, s_raise, s_try, s_pass, s_brk, s_cont, h_nil, h_cons, tru_bl, b_add, b_sub, b_addI, b_mulI, b_mod, b_fdiv, a_addI, a_subI, c_eq, c_ne, c_lt, c_le, c_gt, c_ge, c_in, c_nin, c_isN, c_isnotN, eq_int, bindN, bindTp, setA0, setA1, omap, Option.map_some, Option.map_none, add_sv, aug_sv, len_sv, sub_sv, cut_sv, find_sv, find3_sv, index_sv, in_sv, r_index, r_rjust, r_find, r_find3, r_join, if_true, bx, nx, nxc, tx, ny_next, ny_cont, ny_brk, ny_ret, ny_exc, len_app, len_lst, len_tup, tuple_lst, r_app, append_app, add_tup, add_lst, sub_tup, sub_lst, slice_tup, slice_lst, at_0, at_1, at_2, at_3, at_m1, rg1_ok, rg2_ok, Int.toNat_natCast, int_int, abs_int, min_int, max_int, slice_scr, s_for, e1]
  generalize hq : forL _ _ _ _ _ _ = q
  obtain ⟨σ', h', rfl, e2, s6', e3⟩ := for_q hq (fun i σ g => g = h ∧ ∃ s6, σ = [s0, s1, s2, some (.tup (ws.map sv)), some (.lst ((leafs 0 1 ws).map sv)), some (sv (leafs 0 1 ws).flatten), s6, s7, s8, s9, s10, s11, s12, s13, s14, s15, s16, s17]) (fun _ _ _ _ => rfl) ⟨rfl, _, rfl⟩ (by
    rintro i x σ g hx ⟨rfl, s6, rfl⟩
    obtain ⟨rfl, hi⟩ := rangeL_at _ _ _ hx
    obtain ⟨v, v1, v2, v3⟩ := test_both (both_take 36 G i (by omega))
    unfold f_law_b5
    simp (disch := first | assumption | omega | (simp only [List.length_append, List.length_cons, List.length_nil, List.length_take, List.length_drop, List.length_replicate, List.length_map]; omega)) only [startP, List.map_cons, List.map_nil, List.length_cons, List.length_nil, List.replicate_succ, List.replicate_zero, List.cons_append, List.nil_append, Nat.add_zero, Nat.zero_add, Nat.reduceAdd, Nat.reduceSub, Nat.reduceLT, Nat.reduceLeDiff, List.getElem?_cons_succ, List.getElem?_cons_zero, List.set_cons_succ, List.set_cons_zero, bind_ok, bind_exc, calm_ok, lift_some,
      x_var, x_int, x_lit, x_bl, x_non, x_bin, x_neg, x_cmp, x_chain, x_bool, x_not, x_ite, x_call, x_bcall, x_isi, x_meth, x_tup, x_listT, x_listF, x_sub, x_slice, x_nil, x_cons, x_onone, x_osome, x_tnil, x_tcons, x_b1, x_and, x_or, x_seq, x_range1, x_range2, x_enum,
      s_nil, s_cons, s_expr, s_ret, s_retN, s_asg, s_par, s_aug, s_if, s_raise, s_try, s_pass, s_brk, s_cont, h_nil, h_cons, tru_bl, b_add, b_sub, b_addI, b_mulI, b_mod, b_fdiv, a_addI, a_subI, c_eq, c_ne, c_lt, c_le, c_gt, c_ge, c_in, c_nin, c_isN, c_isnotN, eq_int, bindN, bindTp, setA0, setA1, omap, Option.map_some, Option.map_none, add_sv, aug_sv, len_sv, sub_sv, cut_sv, find_sv, find3_sv, index_sv, in_sv, r_index, r_rjust, r_find, r_find3, r_join, if_true, bx, nx, nxc, tx, ny_next, ny_cont, ny_brk, ny_ret, ny_exc, len_app, len_lst, len_tup, tuple_lst, r_app, append_app, add_tup, add_lst, sub_tup, sub_lst, slice_tup, slice_lst, at_0, at_1, at_2, at_3, at_m1, rg1_ok, rg2_ok, Int.toNat_natCast, int_int, abs_int, min_int, max_int, slice_scr, cut_to, v1, v2, v3, Bool.not_true]
    exact ⟨trivial, _, rfl⟩)
  subst e2 e3
  exact ⟨s6', rfl⟩
end
/-! the bent texts -/
theorem set_cut {α : Type} (l : List α) (i : Nat) (a : α) (h : i < l.length) : l.take i ++ [a] ++ l.drop (i + 1) = l.set i a := by
  rw [List.set_eq_take_append_cons_drop, if_pos h]; simp
theorem swap_cut {α : Type} (l : List α) (i j : Nat) (x y : α) (hij : i < j) (hj : j < l.length) : l.take i ++ [y] ++ (l.take j).drop (i + 1) ++ [x] ++ l.drop (j + 1) = (l.set i y).set j x := by
  rw [← set_cut (l.set i y) j x (by rw [List.length_set]; exact hj), List.drop_set_of_lt (by omega), List.take_set, ← set_cut (l.take j) i y (by rw [List.length_take]; omega), List.take_take, Nat.min_eq_left (by omega)]
section
variable {ds : List Int} {ws : List (List Nat)} {s0 s3 s4 s5 s6 s8 s9 s10 s11 s12 s13 s14 s15 s16 s17 : Option PV} {h : PHeap} {call : Nat → List PV → PHeap → Res PV}
theorem natmod (a b : Nat) : ((a : Int) % (b : Int)) = ((a % b : Nat) : Int) := rfl
theorem len_lsts (h : PHeap) (ls : List (List Nat)) : bfV .len h [.lst (ls.map sv)] = some (.int (ls.length : Nat)) := by rw [len_lst, List.length_map]
theorem m0 (D : Drawn ds) (t n : Nat) {W : List Nat} (hW : W.length ≤ 16777216) (h0 : 0 < W.length) : ∃ q : Nat, q < W.length ∧ 
    ∀ h, evS C call b4_0 [s0, some (.lst (ds.map .int)), some (.int t), s3, s4, some (sv W), s6, some (.int n), s8, s9, s10, s11, s12, s13, s14, s15, s16, s17] h = .next [s0, some (.lst (ds.map .int)), some (.int t), s3, s4, some (sv W), s6, some (.int n), some (.int (q : Nat)), s9, s10, s11, s12, s13, s14, s15, s16, s17] h := by
  have ln := line24
  obtain ⟨d1, e1, _⟩ := drawn_at D (10 + 2 * n + t)
  refine ⟨d1 % W.length, Nat.mod_lt _ h0, fun h => ?_⟩
  have p : (0 : Int) < (W.length : Int) := by omega
  unfold b4_0
  simp (disch := first | assumption | omega | (simp only [List.length_append, List.length_cons, List.length_nil, List.length_take, List.length_drop, List.length_replicate, List.length_map]; omega)) only [startP, List.map_cons, List.map_nil, List.length_cons, List.length_nil, List.replicate_succ, List.replicate_zero, List.cons_append, List.nil_append, Nat.add_zero, Nat.zero_add, Nat.reduceAdd, Nat.reduceSub, Nat.reduceLT, Nat.reduceLeDiff, List.getElem?_cons_succ, List.getElem?_cons_zero, List.set_cons_succ, List.set_cons_zero, bind_ok, bind_exc, calm_ok, lift_some,
      x_var, x_int, x_lit, x_bl, x_non, x_bin, x_neg, x_cmp, x_chain, x_bool, x_not, x_ite, x_call, x_bcall, x_isi, x_meth, x_tup, x_listT, x_listF, x_sub, x_slice, x_nil, x_cons, x_onone, x_osome, x_tnil, x_tcons, x_b1, x_and, x_or, x_seq, x_range1, x_range2, x_enum,
      s_nil, s_cons, s_expr, s_ret, s_retN, s_asg, s_par, s_aug, s_if, s_raise, s_try, s_pass, s_brk, s_cont, h_nil, h_cons, tru_bl, b_add, b_sub, b_addI, b_mulI, b_mod, b_fdiv, a_addI, a_subI, c_eq, c_ne, c_lt, c_le, c_gt, c_ge, c_in, c_nin, c_isN, c_isnotN, eq_int, bindN, bindTp, setA0, setA1, omap, Option.map_some, Option.map_none, add_sv, aug_sv, len_sv, sub_sv, cut_sv, find_sv, find3_sv, index_sv, in_sv, r_index, r_rjust, r_find, r_find3, r_join, if_true, bx, nx, nxc, tx, ny_next, ny_cont, ny_brk, ny_ret, ny_exc, len_app, len_lst, len_tup, tuple_lst, r_app, append_app, add_tup, add_lst, sub_tup, sub_lst, slice_tup, slice_lst, at_0, at_1, at_2, at_3, at_m1, rg1_ok, rg2_ok, Int.toNat_natCast, int_int, abs_int, min_int, max_int, slice_scr, e1, natmod]
theorem m1 (D : Drawn ds) (t n : Nat) : ∃ c : Nat, c < 128 ∧ 
    ∀ h, evS C call b4_1 [s0, some (.lst (ds.map .int)), some (.int t), s3, s4, s5, s6, some (.int n), s8, s9, s10, s11, s12, s13, s14, s15, s16, s17] h = .next [s0, some (.lst (ds.map .int)), some (.int t), s3, s4, s5, s6, some (.int n), s8, some (sv [c]), s10, s11, s12, s13, s14, s15, s16, s17] h := by
  have ln := line24
  obtain ⟨d2, e2, _⟩ := drawn_at D (11 + 2 * n + t)
  have hl : (L "abz019()+-*<=,:; #\nAX\"{}[]?/|").length = 29 := by decide
  have hb : d2 % 29 < (L "abz019()+-*<=,:; #\nAX\"{}[]?/|").length := by rw [hl]; omega
  have hc : ∀ c ∈ L "abz019()+-*<=,:; #\nAX\"{}[]?/|", c < 128 := by decide
  have mc := hc _ (List.getElem_mem hb)
  have hg := List.getElem?_eq_getElem hb
  have hl2 : (L "abz019()+-*<=,:; #\nAX\"{}[]?/|").length ≤ sizeLine := by rw [hl, ln]; decide
  generalize (L "abz019()+-*<=,:; #\nAX\"{}[]?/|")[d2 % 29] = c at mc hg
  have e3 : ((d2 : Int) % 29) = ((d2 % 29 : Nat) : Int) := rfl
  refine ⟨c, mc, fun h => ?_⟩
  unfold b4_1
  simp (disch := first | assumption | omega | (simp only [List.length_append, List.length_cons, List.length_nil, List.length_take, List.length_drop, List.length_replicate, List.length_map]; omega)) only [startP, List.map_cons, List.map_nil, List.length_cons, List.length_nil, List.replicate_succ, List.replicate_zero, List.cons_append, List.nil_append, Nat.add_zero, Nat.zero_add, Nat.reduceAdd, Nat.reduceSub, Nat.reduceLT, Nat.reduceLeDiff, List.getElem?_cons_succ, List.getElem?_cons_zero, List.set_cons_succ, List.set_cons_zero, bind_ok, bind_exc, calm_ok, lift_some,
      x_var, x_int, x_lit, x_bl, x_non, x_bin, x_neg, x_cmp, x_chain, x_bool, x_not, x_ite, x_call, x_bcall, x_isi, x_meth, x_tup, x_listT, x_listF, x_sub, x_slice, x_nil, x_cons, x_onone, x_osome, x_tnil, x_tcons, x_b1, x_and, x_or, x_seq, x_range1, x_range2, x_enum,
      s_nil, s_cons, s_expr, s_ret, s_retN, s_asg, s_par, s_aug, s_if, s_raise, s_try, s_pass, s_brk, s_cont, h_nil, h_cons, tru_bl, b_add, b_sub, b_addI, b_mulI, b_mod, b_fdiv, a_addI, a_subI, c_eq, c_ne, c_lt, c_le, c_gt, c_ge, c_in, c_nin, c_isN, c_isnotN, eq_int, bindN, bindTp, setA0, setA1, omap, Option.map_some, Option.map_none, add_sv, aug_sv, len_sv, sub_sv, cut_sv, find_sv, find3_sv, index_sv, in_sv, r_index, r_rjust, r_find, r_find3, r_join, if_true, bx, nx, nxc, tx, ny_next, ny_cont, ny_brk, ny_ret, ny_exc, len_app, len_lst, len_tup, tuple_lst, r_app, append_app, add_tup, add_lst, sub_tup, sub_lst, slice_tup, slice_lst, at_0, at_1, at_2, at_3, at_m1, rg1_ok, rg2_ok, Int.toNat_natCast, int_int, abs_int, min_int, max_int, slice_scr, e2, e3, atI_nat, hg]
theorem m2 {W : List Nat} (hW : W.length ≤ 16000000) {q c : Nat} (hq : q < W.length) : 
    evS C call b4_2 [s0, s1, s2, s3, s4, some (sv W), s6, s7, some (.int (q : Nat)), some (sv [c]), s10, s11, s12, s13, s14, s15, s16, s17] h = .next [s0, s1, s2, s3, s4, some (sv W), s6, s7, some (.int (q : Nat)), some (sv [c]), some (sv (W.set q c)), s11, s12, s13, s14, s15, s16, s17] h := by
  have ln := line24
  have e4 : (q : Int) + 1 = ((q + 1 : Nat) : Int) := by omega
  have e5 := set_cut W q c hq
  unfold b4_2
  simp (disch := first | assumption | omega | (simp only [List.length_append, List.length_cons, List.length_nil, List.length_take, List.length_drop, List.length_replicate, List.length_map]; omega)) only [startP, List.map_cons, List.map_nil, List.length_cons, List.length_nil, List.replicate_succ, List.replicate_zero, List.cons_append, List.nil_append, Nat.add_zero, Nat.zero_add, Nat.reduceAdd, Nat.reduceSub, Nat.reduceLT, Nat.reduceLeDiff, List.getElem?_cons_succ, List.getElem?_cons_zero, List.set_cons_succ, List.set_cons_zero, bind_ok, bind_exc, calm_ok, lift_some,
      x_var, x_int, x_lit, x_bl, x_non, x_bin, x_neg, x_cmp, x_chain, x_bool, x_not, x_ite, x_call, x_bcall, x_isi, x_meth, x_tup, x_listT, x_listF, x_sub, x_slice, x_nil, x_cons, x_onone, x_osome, x_tnil, x_tcons, x_b1, x_and, x_or, x_seq, x_range1, x_range2, x_enum,
      s_nil, s_cons, s_expr, s_ret, s_retN, s_asg, s_par, s_aug, s_if, s_raise, s_try, s_pass, s_brk, s_cont, h_nil, h_cons, tru_bl, b_add, b_sub, b_addI, b_mulI, b_mod, b_fdiv, a_addI, a_subI, c_eq, c_ne, c_lt, c_le, c_gt, c_ge, c_in, c_nin, c_isN, c_isnotN, eq_int, bindN, bindTp, setA0, setA1, omap, Option.map_some, Option.map_none, add_sv, aug_sv, len_sv, sub_sv, cut_sv, find_sv, find3_sv, index_sv, in_sv, r_index, r_rjust, r_find, r_find3, r_join, if_true, bx, nx, nxc, tx, ny_next, ny_cont, ny_brk, ny_ret, ny_exc, len_app, len_lst, len_tup, tuple_lst, r_app, append_app, add_tup, add_lst, sub_tup, sub_lst, slice_tup, slice_lst, at_0, at_1, at_2, at_3, at_m1, rg1_ok, rg2_ok, Int.toNat_natCast, int_int, abs_int, min_int, max_int, slice_scr, e4, cut_to, cut_from]
  rw [← e5]
theorem m3 {T : List Nat} {v : PV} (v1 : ∀ g, call 1108 [sv T] g = .ok v g) {a b : PV} (v2 : ∀ g, call 9004 [a, b, sv T] g = .ok v g) (v3 : ∀ g, eqV g v v = some true) : 
    evS C call b4_3 [s0, s1, s2, some b, some a, s5, s6, s7, s8, s9, some (sv T), s11, s12, s13, s14, s15, s16, s17] h = .next [s0, s1, s2, some b, some a, s5, s6, s7, s8, s9, some (sv T), s11, s12, s13, s14, s15, s16, s17] h := by
  unfold b4_3
  simp (disch := first | assumption | omega | (simp only [List.length_append, List.length_cons, List.length_nil, List.length_take, List.length_drop, List.length_replicate, List.length_map]; omega)) only [startP, List.map_cons, List.map_nil, List.length_cons, List.length_nil, List.replicate_succ, List.replicate_zero, List.cons_append, List.nil_append, Nat.add_zero, Nat.zero_add, Nat.reduceAdd, Nat.reduceSub, Nat.reduceLT, Nat.reduceLeDiff, List.getElem?_cons_succ, List.getElem?_cons_zero, List.set_cons_succ, List.set_cons_zero, bind_ok, bind_exc, calm_ok, lift_some,
      x_var, x_int, x_lit, x_bl, x_non, x_bin, x_neg, x_cmp, x_chain, x_bool, x_not, x_ite, x_call, x_bcall, x_isi, x_meth, x_tup, x_listT, x_listF, x_sub, x_slice, x_nil, x_cons, x_onone, x_osome, x_tnil, x_tcons, x_b1, x_and, x_or, x_seq, x_range1, x_range2, x_enum,
      s_nil, s_cons, s_expr, s_ret, s_retN, s_asg, s_par, s_aug, s_if, s_raise, s_try, s_pass, s_brk, s_cont, h_nil, h_cons, tru_bl, b_add, b_sub, b_addI, b_mulI, b_mod, b_fdiv, a_addI, a_subI, c_eq, c_ne, c_lt, c_le, c_gt, c_ge, c_in, c_nin, c_isN, c_isnotN, eq_int, bindN, bindTp, setA0, setA1, omap, Option.map_some, Option.map_none, add_sv, aug_sv, len_sv, sub_sv, cut_sv, find_sv, find3_sv, index_sv, in_sv, r_index, r_rjust, r_find, r_find3, r_join, if_true, bx, nx, nxc, tx, ny_next, ny_cont, ny_brk, ny_ret, ny_exc, len_app, len_lst, len_tup, tuple_lst, r_app, append_app, add_tup, add_lst, sub_tup, sub_lst, slice_tup, slice_lst, at_0, at_1, at_2, at_3, at_m1, rg1_ok, rg2_ok, Int.toNat_natCast, int_int, abs_int, min_int, max_int, slice_scr, v1, v2, v3, Bool.not_true]
theorem m4 (D : Drawn ds) (t n : Nat) {ls : List (List Nat)} (h0 : 0 < ls.length) : ∃ q : Nat, q < ls.length ∧ 
    ∀ h, evS C call b4_4 [s0, some (.lst (ds.map .int)), some (.int t), s3, some (.lst (ls.map sv)), s5, s6, some (.int n), s8, s9, s10, s11, s12, s13, s14, s15, s16, s17] h = .next [s0, some (.lst (ds.map .int)), some (.int t), s3, some (.lst (ls.map sv)), s5, some (.int (q : Nat)), some (.int n), s8, s9, s10, s11, s12, s13, s14, s15, s16, s17] h := by
  have ln := line24
  obtain ⟨d1, e1, _⟩ := drawn_at D (60 + n + t)
  refine ⟨d1 % ls.length, Nat.mod_lt _ h0, fun h => ?_⟩
  have p : (0 : Int) < (ls.length : Int) := by omega
  unfold b4_4
  simp (disch := first | assumption | omega | (simp only [List.length_append, List.length_cons, List.length_nil, List.length_take, List.length_drop, List.length_replicate, List.length_map]; omega)) only [startP, List.map_cons, List.map_nil, List.length_cons, List.length_nil, List.replicate_succ, List.replicate_zero, List.cons_append, List.nil_append, Nat.add_zero, Nat.zero_add, Nat.reduceAdd, Nat.reduceSub, Nat.reduceLT, Nat.reduceLeDiff, List.getElem?_cons_succ, List.getElem?_cons_zero, List.set_cons_succ, List.set_cons_zero, bind_ok, bind_exc, calm_ok, lift_some,
      x_var, x_int, x_lit, x_bl, x_non, x_bin, x_neg, x_cmp, x_chain, x_bool, x_not, x_ite, x_call, x_bcall, x_isi, x_meth, x_tup, x_listT, x_listF, x_sub, x_slice, x_nil, x_cons, x_onone, x_osome, x_tnil, x_tcons, x_b1, x_and, x_or, x_seq, x_range1, x_range2, x_enum,
      s_nil, s_cons, s_expr, s_ret, s_retN, s_asg, s_par, s_aug, s_if, s_raise, s_try, s_pass, s_brk, s_cont, h_nil, h_cons, tru_bl, b_add, b_sub, b_addI, b_mulI, b_mod, b_fdiv, a_addI, a_subI, c_eq, c_ne, c_lt, c_le, c_gt, c_ge, c_in, c_nin, c_isN, c_isnotN, eq_int, bindN, bindTp, setA0, setA1, omap, Option.map_some, Option.map_none, add_sv, aug_sv, len_sv, sub_sv, cut_sv, find_sv, find3_sv, index_sv, in_sv, r_index, r_rjust, r_find, r_find3, r_join, if_true, bx, nx, nxc, tx, ny_next, ny_cont, ny_brk, ny_ret, ny_exc, len_app, len_lst, len_tup, tuple_lst, r_app, append_app, add_tup, add_lst, sub_tup, sub_lst, slice_tup, slice_lst, at_0, at_1, at_2, at_3, at_m1, rg1_ok, rg2_ok, Int.toNat_natCast, int_int, abs_int, min_int, max_int, slice_scr, e1, len_lsts, natmod]
  rw [List.length_map]
theorem at_lsts {ls : List (List Nat)} {k : Nat} {l : List Nat} (e : ls[k]? = some l) : L2.atI (ls.map sv) (k : Int) = some (sv l) := by
  rw [atI_nat, List.getElem?_map, e]; rfl
theorem m5 (D : Drawn ds) (t n : Nat) {ls : List (List Nat)} {k : Nat} {l : List Nat} (e : ls[k]? = some l) (hl : l.length ≤ 16000000) (h0 : 0 < l.length) : ∃ i j : Nat, i < l.length ∧ j < l.length ∧ 
    ∀ h, evS C call b4_5 [s0, some (.lst (ds.map .int)), some (.int t), s3, some (.lst (ls.map sv)), s5, some (.int (k : Nat)), some (.int n), s8, s9, s10, s11, s12, s13, s14, s15, s16, s17] h = .next [s0, some (.lst (ds.map .int)), some (.int t), s3, some (.lst (ls.map sv)), s5, some (.int (k : Nat)), some (.int n), s8, s9, s10, some (.int (i : Nat)), some (.int (j : Nat)), s13, s14, s15, s16, s17] h := by
  have ln := line24
  obtain ⟨d1, e1, _⟩ := drawn_at D (61 + n + t)
  obtain ⟨d2, e2, _⟩ := drawn_at D (62 + n + t)
  refine ⟨d1 % l.length, d2 % l.length, Nat.mod_lt _ h0, Nat.mod_lt _ h0, fun h => ?_⟩
  have p : (0 : Int) < (l.length : Int) := by omega
  have ea := at_lsts e
  unfold b4_5
  simp (disch := first | assumption | omega | (simp only [List.length_append, List.length_cons, List.length_nil, List.length_take, List.length_drop, List.length_replicate, List.length_map]; omega)) only [startP, List.map_cons, List.map_nil, List.length_cons, List.length_nil, List.replicate_succ, List.replicate_zero, List.cons_append, List.nil_append, Nat.add_zero, Nat.zero_add, Nat.reduceAdd, Nat.reduceSub, Nat.reduceLT, Nat.reduceLeDiff, List.getElem?_cons_succ, List.getElem?_cons_zero, List.set_cons_succ, List.set_cons_zero, bind_ok, bind_exc, calm_ok, lift_some,
      x_var, x_int, x_lit, x_bl, x_non, x_bin, x_neg, x_cmp, x_chain, x_bool, x_not, x_ite, x_call, x_bcall, x_isi, x_meth, x_tup, x_listT, x_listF, x_sub, x_slice, x_nil, x_cons, x_onone, x_osome, x_tnil, x_tcons, x_b1, x_and, x_or, x_seq, x_range1, x_range2, x_enum,
      s_nil, s_cons, s_expr, s_ret, s_retN, s_asg, s_par, s_aug, s_if, s_raise, s_try, s_pass, s_brk, s_cont, h_nil, h_cons, tru_bl, b_add, b_sub, b_addI, b_mulI, b_mod, b_fdiv, a_addI, a_subI, c_eq, c_ne, c_lt, c_le, c_gt, c_ge, c_in, c_nin, c_isN, c_isnotN, eq_int, bindN, bindTp, setA0, setA1, omap, Option.map_some, Option.map_none, add_sv, aug_sv, len_sv, sub_sv, cut_sv, find_sv, find3_sv, index_sv, in_sv, r_index, r_rjust, r_find, r_find3, r_join, if_true, bx, nx, nxc, tx, ny_next, ny_cont, ny_brk, ny_ret, ny_exc, len_app, len_lst, len_tup, tuple_lst, r_app, append_app, add_tup, add_lst, sub_tup, sub_lst, slice_tup, slice_lst, at_0, at_1, at_2, at_3, at_m1, rg1_ok, rg2_ok, Int.toNat_natCast, int_int, abs_int, min_int, max_int, slice_scr, e1, e2, ea, natmod]
theorem m6 {i j n : Nat} (hi : i < n) (hj : j < n) : ∃ i' j' : Nat, i' ≤ j' ∧ j' < n ∧ 
    ∀ h, evS C call b4_6 [s0, s1, s2, s3, s4, s5, s6, s7, s8, s9, s10, some (.int (i : Nat)), some (.int (j : Nat)), s13, s14, s15, s16, s17] h = .next [s0, s1, s2, s3, s4, s5, s6, s7, s8, s9, s10, some (.int (i' : Nat)), some (.int (j' : Nat)), s13, s14, s15, s16, s17] h := by
  by_cases c : j < i
  · refine ⟨j, i, by omega, hi, fun h => ?_⟩
    unfold b4_6
    have c1 : (j : Int) < (i : Int) := by omega
    have c2 : ¬ (j : Int) > (i : Int) := by omega
    simp (disch := first | assumption | omega | (simp only [List.length_append, List.length_cons, List.length_nil, List.length_take, List.length_drop, List.length_replicate, List.length_map]; omega)) only [startP, List.map_cons, List.map_nil, List.length_cons, List.length_nil, List.replicate_succ, List.replicate_zero, List.cons_append, List.nil_append, Nat.add_zero, Nat.zero_add, Nat.reduceAdd, Nat.reduceSub, Nat.reduceLT, Nat.reduceLeDiff, List.getElem?_cons_succ, List.getElem?_cons_zero, List.set_cons_succ, List.set_cons_zero, bind_ok, bind_exc, calm_ok, lift_some,
      x_var, x_int, x_lit, x_bl, x_non, x_bin, x_neg, x_cmp, x_chain, x_bool, x_not, x_ite, x_call, x_bcall, x_isi, x_meth, x_tup, x_listT, x_listF, x_sub, x_slice, x_nil, x_cons, x_onone, x_osome, x_tnil, x_tcons, x_b1, x_and, x_or, x_seq, x_range1, x_range2, x_enum,
      s_nil, s_cons, s_expr, s_ret, s_retN, s_asg, s_par, s_aug, s_if, s_raise, s_try, s_pass, s_brk, s_cont, h_nil, h_cons, tru_bl, b_add, b_sub, b_addI, b_mulI, b_mod, b_fdiv, a_addI, a_subI, c_eq, c_ne, c_lt, c_le, c_gt, c_ge, c_in, c_nin, c_isN, c_isnotN, eq_int, bindN, bindTp, setA0, setA1, omap, Option.map_some, Option.map_none, add_sv, aug_sv, len_sv, sub_sv, cut_sv, find_sv, find3_sv, index_sv, in_sv, r_index, r_rjust, r_find, r_find3, r_join, if_true, bx, nx, nxc, tx, ny_next, ny_cont, ny_brk, ny_ret, ny_exc, len_app, len_lst, len_tup, tuple_lst, r_app, append_app, add_tup, add_lst, sub_tup, sub_lst, slice_tup, slice_lst, at_0, at_1, at_2, at_3, at_m1, rg1_ok, rg2_ok, Int.toNat_natCast, int_int, abs_int, min_int, max_int, slice_scr, if_pos c1, if_neg c2]
  · refine ⟨i, j, by omega, hj, fun h => ?_⟩
    unfold b4_6
    have c1 : ¬ (j : Int) < (i : Int) := by omega
    by_cases c2 : (j : Int) > (i : Int)
    · simp (disch := first | assumption | omega | (simp only [List.length_append, List.length_cons, List.length_nil, List.length_take, List.length_drop, List.length_replicate, List.length_map]; omega)) only [startP, List.map_cons, List.map_nil, List.length_cons, List.length_nil, List.replicate_succ, List.replicate_zero, List.cons_append, List.nil_append, Nat.add_zero, Nat.zero_add, Nat.reduceAdd, Nat.reduceSub, Nat.reduceLT, Nat.reduceLeDiff, List.getElem?_cons_succ, List.getElem?_cons_zero, List.set_cons_succ, List.set_cons_zero, bind_ok, bind_exc, calm_ok, lift_some,
      x_var, x_int, x_lit, x_bl, x_non, x_bin, x_neg, x_cmp, x_chain, x_bool, x_not, x_ite, x_call, x_bcall, x_isi, x_meth, x_tup, x_listT, x_listF, x_sub, x_slice, x_nil, x_cons, x_onone, x_osome, x_tnil, x_tcons, x_b1, x_and, x_or, x_seq, x_range1, x_range2, x_enum,
      s_nil, s_cons, s_expr, s_ret, s_retN, s_asg, s_par, s_aug, s_if, s_raise, s_try, s_pass, s_brk, s_cont, h_nil, h_cons, tru_bl, b_add, b_sub, b_addI, b_mulI, b_mod, b_fdiv, a_addI, a_subI, c_eq, c_ne, c_lt, c_le, c_gt, c_ge, c_in, c_nin, c_isN, c_isnotN, eq_int, bindN, bindTp, setA0, setA1, omap, Option.map_some, Option.map_none, add_sv, aug_sv, len_sv, sub_sv, cut_sv, find_sv, find3_sv, index_sv, in_sv, r_index, r_rjust, r_find, r_find3, r_join, if_true, bx, nx, nxc, tx, ny_next, ny_cont, ny_brk, ny_ret, ny_exc, len_app, len_lst, len_tup, tuple_lst, r_app, append_app, add_tup, add_lst, sub_tup, sub_lst, slice_tup, slice_lst, at_0, at_1, at_2, at_3, at_m1, rg1_ok, rg2_ok, Int.toNat_natCast, int_int, abs_int, min_int, max_int, slice_scr, if_neg c1, if_pos c2]
    · have : i = j := by omega
      subst this
      simp (disch := first | assumption | omega | (simp only [List.length_append, List.length_cons, List.length_nil, List.length_take, List.length_drop, List.length_replicate, List.length_map]; omega)) only [startP, List.map_cons, List.map_nil, List.length_cons, List.length_nil, List.replicate_succ, List.replicate_zero, List.cons_append, List.nil_append, Nat.add_zero, Nat.zero_add, Nat.reduceAdd, Nat.reduceSub, Nat.reduceLT, Nat.reduceLeDiff, List.getElem?_cons_succ, List.getElem?_cons_zero, List.set_cons_succ, List.set_cons_zero, bind_ok, bind_exc, calm_ok, lift_some,
      x_var, x_int, x_lit, x_bl, x_non, x_bin, x_neg, x_cmp, x_chain, x_bool, x_not, x_ite, x_call, x_bcall, x_isi, x_meth, x_tup, x_listT, x_listF, x_sub, x_slice, x_nil, x_cons, x_onone, x_osome, x_tnil, x_tcons, x_b1, x_and, x_or, x_seq, x_range1, x_range2, x_enum,
      s_nil, s_cons, s_expr, s_ret, s_retN, s_asg, s_par, s_aug, s_if, s_raise, s_try, s_pass, s_brk, s_cont, h_nil, h_cons, tru_bl, b_add, b_sub, b_addI, b_mulI, b_mod, b_fdiv, a_addI, a_subI, c_eq, c_ne, c_lt, c_le, c_gt, c_ge, c_in, c_nin, c_isN, c_isnotN, eq_int, bindN, bindTp, setA0, setA1, omap, Option.map_some, Option.map_none, add_sv, aug_sv, len_sv, sub_sv, cut_sv, find_sv, find3_sv, index_sv, in_sv, r_index, r_rjust, r_find, r_find3, r_join, if_true, bx, nx, nxc, tx, ny_next, ny_cont, ny_brk, ny_ret, ny_exc, len_app, len_lst, len_tup, tuple_lst, r_app, append_app, add_tup, add_lst, sub_tup, sub_lst, slice_tup, slice_lst, at_0, at_1, at_2, at_3, at_m1, rg1_ok, rg2_ok, Int.toNat_natCast, int_int, abs_int, min_int, max_int, slice_scr, if_neg c1, if_neg c2]
theorem m7 {ls : List (List Nat)} {k : Nat} {l : List Nat} (e : ls[k]? = some l) (hl : l.length ≤ 16000000) {i j : Nat} {x y : Nat} (ex : l[i]? = some x) (ey : l[j]? = some y) (hij : i ≤ j) : 
    evS C call b4_7 [s0, s1, s2, s3, some (.lst (ls.map sv)), s5, some (.int (k : Nat)), s7, s8, s9, s10, some (.int (i : Nat)), some (.int (j : Nat)), s13, s14, s15, s16, s17] h =
      .next [s0, s1, s2, s3, some (.lst (ls.map sv)), s5, some (.int (k : Nat)), s7, s8, s9, s10, some (.int (i : Nat)), some (.int (j : Nat)), some (sv (if i < j then (l.set i y).set j x else l)), s14, s15, s16, s17] h := by
  have ln := line24
  have ea := at_lsts e
  have e4 : (i : Int) + 1 = ((i + 1 : Nat) : Int) := by omega
  have e5 : (j : Int) + 1 = ((j + 1 : Nat) : Int) := by omega
  have hj := (List.getElem?_eq_some_iff.mp ey).1
  unfold b4_7
  by_cases c : i < j
  · have c1 : (i : Int) < (j : Int) := by omega
    rw [if_pos c, ← swap_cut l i j x y c hj]
    simp (disch := first | assumption | omega | (simp only [List.length_append, List.length_cons, List.length_nil, List.length_take, List.length_drop, List.length_replicate, List.length_map]; omega)) only [startP, List.map_cons, List.map_nil, List.length_cons, List.length_nil, List.replicate_succ, List.replicate_zero, List.cons_append, List.nil_append, Nat.add_zero, Nat.zero_add, Nat.reduceAdd, Nat.reduceSub, Nat.reduceLT, Nat.reduceLeDiff, List.getElem?_cons_succ, List.getElem?_cons_zero, List.set_cons_succ, List.set_cons_zero, bind_ok, bind_exc, calm_ok, lift_some,
      x_var, x_int, x_lit, x_bl, x_non, x_bin, x_neg, x_cmp, x_chain, x_bool, x_not, x_ite, x_call, x_bcall, x_isi, x_meth, x_tup, x_listT, x_listF, x_sub, x_slice, x_nil, x_cons, x_onone, x_osome, x_tnil, x_tcons, x_b1, x_and, x_or, x_seq, x_range1, x_range2, x_enum,
      s_nil, s_cons, s_expr, s_ret, s_retN, s_asg, s_par, s_aug, s_if, s_raise, s_try, s_pass, s_brk, s_cont, h_nil, h_cons, tru_bl, b_add, b_sub, b_addI, b_mulI, b_mod, b_fdiv, a_addI, a_subI, c_eq, c_ne, c_lt, c_le, c_gt, c_ge, c_in, c_nin, c_isN, c_isnotN, eq_int, bindN, bindTp, setA0, setA1, omap, Option.map_some, Option.map_none, add_sv, aug_sv, len_sv, sub_sv, cut_sv, find_sv, find3_sv, index_sv, in_sv, r_index, r_rjust, r_find, r_find3, r_join, if_true, bx, nx, nxc, tx, ny_next, ny_cont, ny_brk, ny_ret, ny_exc, len_app, len_lst, len_tup, tuple_lst, r_app, append_app, add_tup, add_lst, sub_tup, sub_lst, slice_tup, slice_lst, at_0, at_1, at_2, at_3, at_m1, rg1_ok, rg2_ok, Int.toNat_natCast, int_int, abs_int, min_int, max_int, slice_scr, decide_eq_true c1, ea, e4, e5, cut_to, cut_from, cut_mid, atI_nat, ex, ey]
  · have c1 : ¬ (i : Int) < (j : Int) := by omega
    rw [if_neg c]
    simp (disch := first | assumption | omega | (simp only [List.length_append, List.length_cons, List.length_nil, List.length_take, List.length_drop, List.length_replicate, List.length_map]; omega)) only [startP, List.map_cons, List.map_nil, List.length_cons, List.length_nil, List.replicate_succ, List.replicate_zero, List.cons_append, List.nil_append, Nat.add_zero, Nat.zero_add, Nat.reduceAdd, Nat.reduceSub, Nat.reduceLT, Nat.reduceLeDiff, List.getElem?_cons_succ, List.getElem?_cons_zero, List.set_cons_succ, List.set_cons_zero, bind_ok, bind_exc, calm_ok, lift_some,
      x_var, x_int, x_lit, x_bl, x_non, x_bin, x_neg, x_cmp, x_chain, x_bool, x_not, x_ite, x_call, x_bcall, x_isi, x_meth, x_tup, x_listT, x_listF, x_sub, x_slice, x_nil, x_cons, x_onone, x_osome, x_tnil, x_tcons, x_b1, x_and, x_or, x_seq, x_range1, x_range2, x_enum,
      s_nil, s_cons, s_expr, s_ret, s_retN, s_asg, s_par, s_aug, s_if, s_raise, s_try, s_pass, s_brk, s_cont, h_nil, h_cons, tru_bl, b_add, b_sub, b_addI, b_mulI, b_mod, b_fdiv, a_addI, a_subI, c_eq, c_ne, c_lt, c_le, c_gt, c_ge, c_in, c_nin, c_isN, c_isnotN, eq_int, bindN, bindTp, setA0, setA1, omap, Option.map_some, Option.map_none, add_sv, aug_sv, len_sv, sub_sv, cut_sv, find_sv, find3_sv, index_sv, in_sv, r_index, r_rjust, r_find, r_find3, r_join, if_true, bx, nx, nxc, tx, ny_next, ny_cont, ny_brk, ny_ret, ny_exc, len_app, len_lst, len_tup, tuple_lst, r_app, append_app, add_tup, add_lst, sub_tup, sub_lst, slice_tup, slice_lst, at_0, at_1, at_2, at_3, at_m1, rg1_ok, rg2_ok, Int.toNat_natCast, int_int, abs_int, min_int, max_int, slice_scr, decide_eq_false c1, ea]
theorem flat_le {ls : List (List Nat)} (a : Nat) : (ls.take a).flatten.length ≤ ls.flatten.length ∧ (ls.drop a).flatten.length ≤ ls.flatten.length := by
  have : ls.flatten.length = (ls.take a).flatten.length + (ls.drop a).flatten.length := by rw [← List.length_append, ← List.flatten_append, List.take_append_drop]
  omega
theorem m8 {ls : List (List Nat)} {k : Nat} {l : List Nat} (hl : l.length ≤ 1000000) (hf : ls.flatten.length ≤ 1000000) : 
    evS C call b4_8 [s0, s1, s2, s3, some (.lst (ls.map sv)), s5, some (.int (k : Nat)), s7, s8, s9, s10, s11, s12, some (sv l), s14, s15, s16, s17] h =
      .next [s0, s1, s2, s3, some (.lst (ls.map sv)), s5, some (.int (k : Nat)), s7, s8, s9, some (sv ((ls.take k).flatten ++ (l ++ (ls.drop (k + 1)).flatten))), s11, s12, some (sv l), s14, s15, s16, s17] h := by
  have ln := line24
  have e4 : (k : Int) + 1 = ((k + 1 : Nat) : Int) := by omega
  have f1 := (flat_le (ls := ls) k).1
  have f2 := (flat_le (ls := ls) (k + 1)).2
  have j1 := fun h => join_sv h (.lst ((ls.map sv).take k)) (ls.take k) (by rw [← List.map_take]; rfl) (by omega)
  have j2 := fun h => join_sv h (.lst ((ls.map sv).drop (k + 1))) (ls.drop (k + 1)) (by rw [← List.map_drop]; rfl) (by omega)
  unfold b4_8
  simp (disch := first | assumption | omega | (simp only [List.length_append, List.length_cons, List.length_nil, List.length_take, List.length_drop, List.length_replicate, List.length_map]; omega)) only [startP, List.map_cons, List.map_nil, List.length_cons, List.length_nil, List.replicate_succ, List.replicate_zero, List.cons_append, List.nil_append, Nat.add_zero, Nat.zero_add, Nat.reduceAdd, Nat.reduceSub, Nat.reduceLT, Nat.reduceLeDiff, List.getElem?_cons_succ, List.getElem?_cons_zero, List.set_cons_succ, List.set_cons_zero, bind_ok, bind_exc, calm_ok, lift_some,
      x_var, x_int, x_lit, x_bl, x_non, x_bin, x_neg, x_cmp, x_chain, x_bool, x_not, x_ite, x_call, x_bcall, x_isi, x_meth, x_tup, x_listT, x_listF, x_sub, x_slice, x_nil, x_cons, x_onone, x_osome, x_tnil, x_tcons, x_b1, x_and, x_or, x_seq, x_range1, x_range2, x_enum,
      s_nil, s_cons, s_expr, s_ret, s_retN, s_asg, s_par, s_aug, s_if, s_raise, s_try, s_pass, s_brk, s_cont, h_nil, h_cons, tru_bl, b_add, b_sub, b_addI, b_mulI, b_mod, b_fdiv, a_addI, a_subI, c_eq, c_ne, c_lt, c_le, c_gt, c_ge, c_in, c_nin, c_isN, c_isnotN, eq_int, bindN, bindTp, setA0, setA1, omap, Option.map_some, Option.map_none, add_sv, aug_sv, len_sv, sub_sv, cut_sv, find_sv, find3_sv, index_sv, in_sv, r_index, r_rjust, r_find, r_find3, r_join, if_true, bx, nx, nxc, tx, ny_next, ny_cont, ny_brk, ny_ret, ny_exc, len_app, len_lst, len_tup, tuple_lst, r_app, append_app, add_tup, add_lst, sub_tup, sub_lst, slice_tup, slice_lst, at_0, at_1, at_2, at_3, at_m1, rg1_ok, rg2_ok, Int.toNat_natCast, int_int, abs_int, min_int, max_int, slice_scr, e4, cut_to, cut_from, l_nil, j1, j2]
  rw [List.append_assoc]
theorem m9 {T : List Nat} {v : PV} (v1 : ∀ g, call 1108 [sv T] g = .ok v g) {a b : PV} (v2 : ∀ g, call 9004 [a, b, sv T] g = .ok v g) (v3 : ∀ g, eqV g v v = some true) : 
    evS C call b4_9 [s0, s1, s2, some b, some a, s5, s6, s7, s8, s9, some (sv T), s11, s12, s13, s14, s15, s16, s17] h = .next [s0, s1, s2, some b, some a, s5, s6, s7, s8, s9, some (sv T), s11, s12, s13, s14, s15, s16, s17] h := by
  unfold b4_9
  simp (disch := first | assumption | omega | (simp only [List.length_append, List.length_cons, List.length_nil, List.length_take, List.length_drop, List.length_replicate, List.length_map]; omega)) only [startP, List.map_cons, List.map_nil, List.length_cons, List.length_nil, List.replicate_succ, List.replicate_zero, List.cons_append, List.nil_append, Nat.add_zero, Nat.zero_add, Nat.reduceAdd, Nat.reduceSub, Nat.reduceLT, Nat.reduceLeDiff, List.getElem?_cons_succ, List.getElem?_cons_zero, List.set_cons_succ, List.set_cons_zero, bind_ok, bind_exc, calm_ok, lift_some,
      x_var, x_int, x_lit, x_bl, x_non, x_bin, x_neg, x_cmp, x_chain, x_bool, x_not, x_ite, x_call, x_bcall, x_isi, x_meth, x_tup, x_listT, x_listF, x_sub, x_slice, x_nil, x_cons, x_onone, x_osome, x_tnil, x_tcons, x_b1, x_and, x_or, x_seq, x_range1, x_range2, x_enum,
      s_nil, s_cons, s_expr, s_ret, s_retN, s_asg, s_par, s_aug, s_if, s_raise, s_try, s_pass, s_brk, s_cont, h_nil, h_cons, tru_bl, b_add, b_sub, b_addI, b_mulI, b_mod, b_fdiv, a_addI, a_subI, c_eq, c_ne, c_lt, c_le, c_gt, c_ge, c_in, c_nin, c_isN, c_isnotN, eq_int, bindN, bindTp, setA0, setA1, omap, Option.map_some, Option.map_none, add_sv, aug_sv, len_sv, sub_sv, cut_sv, find_sv, find3_sv, index_sv, in_sv, r_index, r_rjust, r_find, r_find3, r_join, if_true, bx, nx, nxc, tx, ny_next, ny_cont, ny_brk, ny_ret, ny_exc, len_app, len_lst, len_tup, tuple_lst, r_app, append_app, add_tup, add_lst, sub_tup, sub_lst, slice_tup, slice_lst, at_0, at_1, at_2, at_3, at_m1, rg1_ok, rg2_ok, Int.toNat_natCast, int_int, abs_int, min_int, max_int, slice_scr, v1, v2, v3, Bool.not_true]
end
end K54
end
section
set_option Elab.async false
set_option linter.all false
set_option maxRecDepth 100000
set_option maxHeartbeats 1000000
/-! the turn: bent texts, exchanged leaves. -/
namespace K54
open PySem Fx Lv
open SX (S)
open L2 (atI)
theorem next_cons {cfg : Cfg} {call : Nat → List PV → PHeap → Res PV} {s : IS} {r : ISs} {σ σ' : PSt} {h h' : PHeap} (e : evS cfg call s σ h = .next σ' h') : evSs cfg call (.cons s r) σ h = evSs cfg call r σ' h' := by
  rw [s_cons, e]
section
variable {ds : List Int} {ws : List (List Nat)} {s0 s6 s7 s8 s9 s10 s11 s12 s13 s14 s15 s16 s17 : Option PV} {h : PHeap}
theorem body4 (D : Drawn ds) (G : Good ws) (t n : Nat) : ∃ t6 t8 t9 t10 t11 t12 t13 : Option PV,
    evSs C (Fx.run C 40) f_law_b4 [s0, some (.lst (ds.map .int)), some (.int t), some (.tup (ws.map sv)), some (.lst ((leafs 0 1 ws).map sv)), some (sv (leafs 0 1 ws).flatten), s6, some (.int n), s8, s9, s10, s11, s12, s13, s14, s15, s16, s17] h =
    .next [s0, some (.lst (ds.map .int)), some (.int t), some (.tup (ws.map sv)), some (.lst ((leafs 0 1 ws).map sv)), some (sv (leafs 0 1 ws).flatten), t6, some (.int n), t8, t9, t10, t11, t12, t13, s14, s15, s16, s17] h := by
  have f5 := G.five
  have f1 := G.one
  have fl := flat_leafs ws 0 1 (fun w m => (G.word w m).2.1) (by omega)
  have ll := len_leafs ws 0 1
  have h0 : 0 < (leafs 0 1 ws).flatten.length := by
    cases ws with
    | nil => simp at f1
    | cons w r =>
      show 0 < (leafBy 0 1 w ++ (leafs _ _ r).flatten).length
      have := @leaf_ne 0 1 w
      rw [List.length_append]; omega
  rw [b4_eq]
  obtain ⟨q, hq, e0⟩ := m0 (call := Fx.run C 40) (s0 := s0) (s3 := some (.tup (ws.map sv))) (s4 := some (.lst ((leafs 0 1 ws).map sv))) (s6 := s6) (s8 := s8) (s9 := s9) (s10 := s10) (s11 := s11) (s12 := s12) (s13 := s13) (s14 := s14) (s15 := s15) (s16 := s16) (s17 := s17) D t n (W := (leafs 0 1 ws).flatten) (by omega) h0
  rw [next_cons (e0 h)]
  obtain ⟨c, hc, e1⟩ := m1 (call := Fx.run C 40) (s0 := s0) (s3 := some (.tup (ws.map sv))) (s4 := some (.lst ((leafs 0 1 ws).map sv))) (s5 := some (sv (leafs 0 1 ws).flatten)) (s6 := s6) (s8 := some (.int (q : Nat))) (s9 := s9) (s10 := s10) (s11 := s11) (s12 := s12) (s13 := s13) (s14 := s14) (s15 := s15) (s16 := s16) (s17 := s17) D t n
  rw [next_cons (e1 h), next_cons (m2 (by omega) hq)]
  obtain ⟨v, v1, v2, v3⟩ := test_both (both_bent 36 G q c (by omega) hq)
  rw [next_cons (m3 v1 v2 v3)]
  obtain ⟨k, hk, e4⟩ := m4 (call := Fx.run C 40) (s0 := s0) (s3 := some (.tup (ws.map sv))) (s5 := some (sv (leafs 0 1 ws).flatten)) (s6 := s6) (s8 := some (.int (q : Nat))) (s9 := some (sv [c])) (s10 := some (sv ((leafs 0 1 ws).flatten.set q c))) (s11 := s11) (s12 := s12) (s13 := s13) (s14 := s14) (s15 := s15) (s16 := s16) (s17 := s17) D t n (ls := leafs 0 1 ws) (by omega)
  rw [next_cons (e4 h)]
  have hk' : k < ws.length := by omega
  have ew : ws = ws.take k ++ ws[k] :: ws.drop (k + 1) := by rw [← List.drop_eq_getElem_cons hk', List.take_append_drop]
  have lk : (ws.take k).length = k := by rw [List.length_take]; omega
  have el := leafs_at (List.getElem?_eq_getElem hk')
  have w30 := (G.word _ (List.getElem_mem hk')).2.1
  have len := leaf_len (ahd 0 1 (ws.take k)) (1 + k) ws[k] (by omega)
  obtain ⟨i, j, hi, hj, e5⟩ := m5 (call := Fx.run C 40) (s0 := s0) (s3 := some (.tup (ws.map sv))) (s5 := some (sv (leafs 0 1 ws).flatten)) (s8 := some (.int (q : Nat))) (s9 := some (sv [c])) (s10 := some (sv ((leafs 0 1 ws).flatten.set q c))) (s11 := s11) (s12 := s12) (s13 := s13) (s14 := s14) (s15 := s15) (s16 := s16) (s17 := s17) D t n el (by omega) (by omega)
  rw [next_cons (e5 h)]
  obtain ⟨i', j', hij, hj', e6⟩ := m6 (call := Fx.run C 40) (s0 := s0) (s1 := some (.lst (ds.map .int))) (s2 := some (.int t)) (s3 := some (.tup (ws.map sv))) (s4 := some (.lst ((leafs 0 1 ws).map sv))) (s5 := some (sv (leafs 0 1 ws).flatten)) (s6 := some (.int (k : Nat))) (s7 := some (.int (n : Nat))) (s8 := some (.int (q : Nat))) (s9 := some (sv [c])) (s10 := some (sv ((leafs 0 1 ws).flatten.set q c))) (s13 := s13) (s14 := s14) (s15 := s15) (s16 := s16) (s17 := s17) hi hj
  rw [next_cons (e6 h)]
  have ex := List.getElem?_eq_getElem (show i' < (leafBy (ahd 0 1 (ws.take k)) (1 + k) ws[k]).length by omega)
  have ey := List.getElem?_eq_getElem hj'
  generalize (leafBy (ahd 0 1 (ws.take k)) (1 + k) ws[k])[i'] = x at ex
  generalize (leafBy (ahd 0 1 (ws.take k)) (1 + k) ws[k])[j'] = y at ey
  rw [next_cons (m7 el (by omega) ex ey hij), next_cons (m8 (by split <;> (try simp only [List.length_set]) <;> omega) (by omega))]
  have B : Both 36 ws (((leafs 0 1 ws).take k).flatten ++ ((if i' < j' then ((leafBy (ahd 0 1 (ws.take k)) (1 + k) ws[k]).set i' y).set j' x else leafBy (ahd 0 1 (ws.take k)) (1 + k) ws[k]) ++ ((leafs 0 1 ws).drop (k + 1)).flatten)) := by
    have ed : (leafs 0 1 ws).drop (k + 1) = leafs (own (ahd 0 1 (ws.take k)) (1 + k) ws[k]) (1 + k + 1) (ws.drop (k + 1)) := by
      conv => lhs; rw [ew, leafs_app, lk]
      have : (leafs 0 1 (ws.take k)).length = k := by rw [len_leafs, lk]
      rw [List.drop_append, List.drop_of_length_le (by omega), this, show k + 1 - k = 1 by omega]; rfl
    rw [leafs_take]
    by_cases cc : i' < j'
    · rw [if_pos cc, ed]
      have := both_swap 36 (us := ws.take k) (vs := ws.drop (k + 1)) (w := ws[k]) (i := i') (j := j') (x := x) (y := y) (by rw [← ew]; exact G) cc (by rw [lk]; exact ex) (by rw [lk]; exact ey)
      rw [lk, ← ew] at this
      exact this
    · rw [if_neg cc, ← leafs_take]
      have e9 : leafBy (ahd 0 1 (ws.take k)) (1 + k) ws[k] :: (leafs 0 1 ws).drop (k + 1) = (leafs 0 1 ws).drop k := by
        rw [List.drop_eq_getElem_cons hk]
        congr 1
        rw [List.getElem?_eq_getElem hk] at el
        exact (Option.some.inj el).symm
      have e10 : ((leafs 0 1 ws).take k).flatten ++ (leafBy (ahd 0 1 (ws.take k)) (1 + k) ws[k] ++ ((leafs 0 1 ws).drop (k + 1)).flatten) = (leafs 0 1 ws).flatten := by
        rw [show leafBy (ahd 0 1 (ws.take k)) (1 + k) ws[k] ++ ((leafs 0 1 ws).drop (k + 1)).flatten = (leafBy (ahd 0 1 (ws.take k)) (1 + k) ws[k] :: (leafs 0 1 ws).drop (k + 1)).flatten from rfl, e9, ← List.flatten_append, List.take_append_drop]
      rw [e10]
      exact both_full 36 G
  obtain ⟨v, v1, v2, v3⟩ := test_both B
  rw [next_cons (m9 v1 v2 v3), s_nil]
  exact ⟨_, _, _, _, _, _, _, rfl⟩
theorem do6 (D : Drawn ds) (G : Good ws) (t : Nat) : ∃ t6 t7 t8 t9 t10 t11 t12 t13 : Option PV,
    evS C (Fx.run C 40) b6_5 [s0, some (.lst (ds.map .int)), some (.int t), some (.tup (ws.map sv)), some (.lst ((leafs 0 1 ws).map sv)), some (sv (leafs 0 1 ws).flatten), s6, s7, s8, s9, s10, s11, s12, s13, s14, s15, s16, s17] h =
    .next [s0, some (.lst (ds.map .int)), some (.int t), some (.tup (ws.map sv)), some (.lst ((leafs 0 1 ws).map sv)), some (sv (leafs 0 1 ws).flatten), t6, t7, t8, t9, t10, t11, t12, t13, s14, s15, s16, s17] h := by
  unfold b6_5
  simp (disch := first | assumption | omega | (simp only [List.length_append, List.length_cons, List.length_nil, List.length_take, List.length_drop, List.length_replicate, List.length_map]; omega)) only [startP, List.map_cons, List.map_nil, List.length_cons, List.length_nil, List.replicate_succ, List.replicate_zero, List.cons_append, List.nil_append, Nat.add_zero, Nat.zero_add, Nat.reduceAdd, Nat.reduceSub, Nat.reduceLT, Nat.reduceLeDiff, List.getElem?_cons_succ, List.getElem?_cons_zero, List.set_cons_succ, List.set_cons_zero, bind_ok, bind_exc, calm_ok, lift_some,
      x_var, x_int, x_lit, x_bl, x_non, x_bin, x_neg, x_cmp, x_chain, x_bool, x_not, x_ite, x_call, x_bcall, x_isi, x_meth, x_tup, x_listT, x_listF, x_sub, x_slice, x_nil, x_cons, x_onone, x_osome, x_tnil, x_tcons, x_b1, x_and, x_or, x_seq, x_range1, x_range2, x_enum,
      s_nil, s_cons, s_expr, s_ret, s_retN, s_asg, s_par, s_aug, s_if, s_raise, s_try, s_pass, s_brk, s_cont, h_nil, h_cons, tru_bl, b_add, b_sub, b_addI, b_mulI, b_mod, b_fdiv, a_addI, a_subI, c_eq, c_ne, c_lt, c_le, c_gt, c_ge, c_in, c_nin, c_isN, c_isnotN, eq_int, bindN, bindTp, setA0, setA1, omap, Option.map_some, Option.map_none, add_sv, aug_sv, len_sv, sub_sv, cut_sv, find_sv, find3_sv, index_sv, in_sv, r_index, r_rjust, r_find, r_find3, r_join, if_true, bx, nx, nxc, tx, ny_next, ny_cont, ny_brk, ny_ret, ny_exc, len_app, len_lst, len_tup, tuple_lst, r_app, append_app, add_tup, add_lst, sub_tup, sub_lst, slice_tup, slice_lst, at_0, at_1, at_2, at_3, at_m1, rg1_ok, rg2_ok, Int.toNat_natCast, int_int, abs_int, min_int, max_int, slice_scr, s_for]
  generalize hq : forL _ _ _ _ _ _ = q
  obtain ⟨σ', h', rfl, e2, t6, t7, t8, t9, t10, t11, t12, t13, e3⟩ := for_q hq (fun i σ g => g = h ∧ ∃ t6 t7 t8 t9 t10 t11 t12 t13, σ = [s0, some (.lst (ds.map .int)), some (.int t), some (.tup (ws.map sv)), some (.lst ((leafs 0 1 ws).map sv)), some (sv (leafs 0 1 ws).flatten), t6, t7, t8, t9, t10, t11, t12, t13, s14, s15, s16, s17]) (fun _ _ _ _ => rfl) ⟨rfl, _, _, _, _, _, _, _, _, rfl⟩ (by
    rintro i x σ g hx ⟨rfl, t6, t7, t8, t9, t10, t11, t12, t13, rfl⟩
    obtain ⟨rfl, hi⟩ := rangeL_at _ _ _ hx
    obtain ⟨u6, u8, u9, u10, u11, u12, u13, e⟩ := body4 (s0 := s0) (s6 := t6) (s8 := t8) (s9 := t9) (s10 := t10) (s11 := t11) (s12 := t12) (s13 := t13) (s14 := s14) (s15 := s15) (s16 := s16) (s17 := s17) (h := g) D G t i
    simp (disch := first | assumption | omega | (simp only [List.length_append, List.length_cons, List.length_nil, List.length_take, List.length_drop, List.length_replicate, List.length_map]; omega)) only [startP, List.map_cons, List.map_nil, List.length_cons, List.length_nil, List.replicate_succ, List.replicate_zero, List.cons_append, List.nil_append, Nat.add_zero, Nat.zero_add, Nat.reduceAdd, Nat.reduceSub, Nat.reduceLT, Nat.reduceLeDiff, List.getElem?_cons_succ, List.getElem?_cons_zero, List.set_cons_succ, List.set_cons_zero, bind_ok, bind_exc, calm_ok, lift_some,
      x_var, x_int, x_lit, x_bl, x_non, x_bin, x_neg, x_cmp, x_chain, x_bool, x_not, x_ite, x_call, x_bcall, x_isi, x_meth, x_tup, x_listT, x_listF, x_sub, x_slice, x_nil, x_cons, x_onone, x_osome, x_tnil, x_tcons, x_b1, x_and, x_or, x_seq, x_range1, x_range2, x_enum,
      s_nil, s_cons, s_expr, s_ret, s_retN, s_asg, s_par, s_aug, s_if, s_raise, s_try, s_pass, s_brk, s_cont, h_nil, h_cons, tru_bl, b_add, b_sub, b_addI, b_mulI, b_mod, b_fdiv, a_addI, a_subI, c_eq, c_ne, c_lt, c_le, c_gt, c_ge, c_in, c_nin, c_isN, c_isnotN, eq_int, bindN, bindTp, setA0, setA1, omap, Option.map_some, Option.map_none, add_sv, aug_sv, len_sv, sub_sv, cut_sv, find_sv, find3_sv, index_sv, in_sv, r_index, r_rjust, r_find, r_find3, r_join, if_true, bx, nx, nxc, tx, ny_next, ny_cont, ny_brk, ny_ret, ny_exc, len_app, len_lst, len_tup, tuple_lst, r_app, append_app, add_tup, add_lst, sub_tup, sub_lst, slice_tup, slice_lst, at_0, at_1, at_2, at_3, at_m1, rg1_ok, rg2_ok, Int.toNat_natCast, int_int, abs_int, min_int, max_int, slice_scr, e]
    exact ⟨trivial, _, _, _, _, _, _, _, _, rfl⟩)
  subst e2 e3
  exact ⟨_, _, _, _, _, _, _, _, rfl⟩
end
end K54
end
section
set_option Elab.async false
set_option linter.all false
set_option maxRecDepth 100000
set_option maxHeartbeats 1000000
/-! the turn: leaves exchanged, twice, left out. -/
namespace K54
open PySem Fx Lv
open SX (S)
open L2 (atI)
theorem okL_flat : ∀ {M : List (List Nat)}, (∀ l ∈ M, okL l = true) → okL M.flatten = true
  | [], _ => rfl
  | l :: r, h => by
    rw [List.flatten_cons, okL_app, h l (List.mem_cons_self ..), okL_flat fun x m => h x (List.mem_cons_of_mem _ m)]; rfl
theorem len_flat : ∀ {M : List (List Nat)}, (∀ l ∈ M, l.length ≤ 40) → M.flatten.length ≤ 40 * M.length
  | [], _ => Nat.le_refl _
  | l :: r, h => by
    have := len_flat fun x m => h x (List.mem_cons_of_mem _ m)
    have := h l (List.mem_cons_self ..)
    rw [List.flatten_cons, List.length_append, List.length_cons]; omega
theorem leafs_ok : ∀ (us : List (List Nat)) (a n : Nat), (∀ w ∈ us, w.length ≤ 30 ∧ ∀ c ∈ w, c ∈ SG) → n + us.length ≤ 10 → ∀ l ∈ leafs a n us, okL l = true ∧ l.length ≤ 40
  | [], _, _, _, _, l, m => nomatch m
  | w :: r, a, n, h, hn, l, m => by
    simp only [List.length_cons] at hn
    have hw := h w (List.mem_cons_self ..)
    rcases List.mem_cons.mp (show l ∈ leafBy a n w :: leafs (own a n w) (n + 1) r from m) with e | m
    · rw [e, leaf_len a n w (by omega)]
      exact ⟨okL_leaf hw.2, by omega⟩
    · exact leafs_ok r _ _ (fun u q => h u (List.mem_cons_of_mem _ q)) (by omega) l m
section
variable {ws : List (List Nat)}
theorem Good.lok (G : Good ws) : ∀ l ∈ leafs 0 1 ws, okL l = true ∧ l.length ≤ 40 := leafs_ok ws 0 1 (fun w m => ⟨(G.word w m).2.1, fun c q => TS_SG c ((G.word w m).2.2 c q)⟩) (by have := G.five; omega)
theorem words_leafs (G : Good ws) (k : Nat) (hk : k ≤ ws.length) (M : List (List Nat)) (hM : ∀ l ∈ M, l ∈ leafs 0 1 ws) (hl : M.length ≤ 20) (hc : M.flatten[0]? ≠ some (48 + (1 + k))) (g : PHeap) :
    Fx.run C 40 1108 [sv ((leafs 0 1 ws).take k ++ M).flatten] g = .ok (ans (ws.take k)) g := by
  have f5 := G.five
  have lk : (ws.take k).length = k := by rw [List.length_take]; omega
  have b := len_flat fun l m => (G.lok l (hM l m)).2
  rw [List.flatten_append, leafs_take]
  exact words_other 36 (us := ws.take k) (fun w m => ⟨G.arew w (List.mem_of_mem_take m), (G.word w (List.mem_of_mem_take m)).2.1⟩) (by omega) (by rw [lk]; exact hc) (by omega) (okL_flat fun l m => (G.lok l (hM l m)).1) g
theorem first_at {i : Nat} (G : Good ws) {l : List Nat} (e : (leafs 0 1 ws)[i]? = some l) (r : List Nat) : (l ++ r)[0]? = some (48 + (1 + i)) := by
  have f5 := G.five
  have hi := (List.getElem?_eq_some_iff.mp e).1
  rw [len_leafs] at hi
  have := leafs_at (List.getElem?_eq_getElem hi)
  rw [e] at this
  rw [Option.some.inj this]
  exact leaf_0 (by omega) r
theorem ans_is (us : List (List Nat)) : ans us = .tup [.tup (us.map sv), .int ((leafs 0 1 us).flatten.length : Nat)] := rfl
theorem Good.takeok (G : Good ws) (k : Nat) : ∀ w ∈ ws.take k, okL w = true := fun w m => G.ok w (List.mem_of_mem_take m)
variable {s0 s1 s2 s5 s6 s7 s8 s9 s10 s11 s12 s13 s14 s15 s16 s17 : Option PV} {h : PHeap}
theorem Good.jn (G : Good ws) (M : List (List Nat)) (hM : ∀ l ∈ M, l ∈ leafs 0 1 ws) (hl : M.length ≤ 20) (v : PV) (e : asL h v = some (M.map sv)) : bmV .join h (sv []) [v] = .ok (sv M.flatten) h := by
  have b := len_flat fun l m => (G.lok l (hM l m)).2
  exact join_sv h v M e (by omega)
theorem Good.jnt (G : Good ws) (k : Nat) : bmV .join h (sv []) [.lst (((leafs 0 1 ws).map sv).take k)] = .ok (sv (leafs 0 1 (ws.take k)).flatten) h := by
  have f5 := G.five
  have := len_leafs ws 0 1
  rw [G.jn ((leafs 0 1 ws).take k) (fun l m => List.mem_of_mem_take m) (by rw [List.length_take]; omega) _ (by rw [← List.map_take]; rfl), leafs_take]
theorem Good.flen (G : Good ws) (k : Nat) : (leafs 0 1 (ws.take k)).flatten.length ≤ 16777216 := by
  have f5 := G.five
  have := flat_leafs (ws.take k) 0 1 (fun w m => (G.word w (List.mem_of_mem_take m)).2.1) (by rw [List.length_take]; omega)
  rw [List.length_take] at this
  omega
theorem n2 (G : Good ws) (k n : Nat) (hkn : k < n) (hn : n < ws.length) : ∃ t10 : Option PV,
    evSs C (Fx.run C 40) f_law_b2 [s0, s1, s2, some (.tup (ws.map sv)), some (.lst ((leafs 0 1 ws).map sv)), s5, some (.int (k : Nat)), some (.int (n : Nat)), s8, s9, s10, s11, s12, s13, s14, s15, s16, s17] h =
    .next [s0, s1, s2, some (.tup (ws.map sv)), some (.lst ((leafs 0 1 ws).map sv)), s5, some (.int (k : Nat)), some (.int (n : Nat)), s8, s9, t10, s11, s12, s13, s14, s15, s16, s17] h := by
  have f5 := G.five
  have ll := len_leafs ws 0 1
  have ln := line24
  have lm : ((leafs 0 1 ws).map sv).length ≤ 5 := by rw [List.length_map]; omega
  have en := List.getElem?_eq_getElem (show n < (leafs 0 1 ws).length by omega)
  have ek := List.getElem?_eq_getElem (show k < (leafs 0 1 ws).length by omega)
  have mn := List.getElem_mem (show n < (leafs 0 1 ws).length by omega)
  have mk := List.getElem_mem (show k < (leafs 0 1 ws).length by omega)
  generalize (leafs 0 1 ws)[n] = ln' at en mn
  generalize (leafs 0 1 ws)[k] = lk' at ek mk
  have a1 := at_lsts en
  have a2 := at_lsts ek
  have e4 : (k : Int) + 1 = ((k + 1 : Nat) : Int) := by omega
  have e5 : (n : Int) + 1 = ((n + 1 : Nat) : Int) := by omega
  let M : List (List Nat) := [ln'] ++ ((leafs 0 1 ws).take n).drop (k + 1) ++ [lk'] ++ (leafs 0 1 ws).drop (n + 1)
  have hM : ∀ l ∈ M, l ∈ leafs 0 1 ws := by
    intro l m
    simp only [M, List.mem_append, List.mem_singleton] at m
    rcases m with ((m | m) | m) | m
    · rw [m]; exact mn
    · exact List.mem_of_mem_take (List.mem_of_mem_drop m)
    · rw [m]; exact mk
    · exact List.mem_of_mem_drop m
  have hMl : M.length ≤ 15 := by
    simp only [M, List.length_append, List.length_cons, List.length_nil, List.length_take, List.length_drop]; omega
  have hc : M.flatten[0]? ≠ some (48 + (1 + k)) := by
    have := first_at G en ((((leafs 0 1 ws).take n).drop (k + 1) ++ [lk'] ++ (leafs 0 1 ws).drop (n + 1)).flatten)
    have e : M.flatten = ln' ++ ((((leafs 0 1 ws).take n).drop (k + 1) ++ [lk'] ++ (leafs 0 1 ws).drop (n + 1)).flatten) := by simp [M]
    rw [e, this]
    intro z
    have := Option.some.inj z
    omega
  have wi := words_leafs G k (by omega) M hM (by omega) hc
  have j := fun h => G.jn (h := h) ((leafs 0 1 ws).take k ++ M) (by
    intro l m
    rcases List.mem_append.mp m with m | m
    · exact List.mem_of_mem_take m
    · exact hM l m) (by rw [List.length_append, List.length_take]; omega) (.lst (((leafs 0 1 ws).map sv).take k ++ [sv ln'] ++ (((leafs 0 1 ws).map sv).take n).drop (k + 1) ++ [sv lk'] ++ ((leafs 0 1 ws).map sv).drop (n + 1))) (by simp [asL, M])
  have jt := fun h => G.jnt (h := h) k
  have fln := G.flen k
  have q := fun g => ans_eq g (G.takeok k)
  rw [ans_is] at wi q
  have et : ((ws.map sv).take k) = (ws.take k).map sv := List.map_take.symm
  rw [b2_eq]
  unfold b2_0 b2_1
  simp (disch := first | assumption | omega | (simp only [List.length_append, List.length_cons, List.length_nil, List.length_take, List.length_drop, List.length_replicate, List.length_map]; omega)) only [startP, List.map_cons, List.map_nil, List.length_cons, List.length_nil, List.replicate_succ, List.replicate_zero, List.cons_append, List.nil_append, Nat.add_zero, Nat.zero_add, Nat.reduceAdd, Nat.reduceSub, Nat.reduceLT, Nat.reduceLeDiff, List.getElem?_cons_succ, List.getElem?_cons_zero, List.set_cons_succ, List.set_cons_zero, bind_ok, bind_exc, calm_ok, lift_some,
      x_var, x_int, x_lit, x_bl, x_non, x_bin, x_neg, x_cmp, x_chain, x_bool, x_not, x_ite, x_call, x_bcall, x_isi, x_meth, x_tup, x_listT, x_listF, x_sub, x_slice, x_nil, x_cons, x_onone, x_osome, x_tnil, x_tcons, x_b1, x_and, x_or, x_seq, x_range1, x_range2, x_enum,
      s_nil, s_cons, s_expr, s_ret, s_retN, s_asg, s_par, s_aug, s_if, s_raise, s_try, s_pass, s_brk, s_cont, h_nil, h_cons, tru_bl, b_add, b_sub, b_addI, b_mulI, b_mod, b_fdiv, a_addI, a_subI, c_eq, c_ne, c_lt, c_le, c_gt, c_ge, c_in, c_nin, c_isN, c_isnotN, eq_int, bindN, bindTp, setA0, setA1, omap, Option.map_some, Option.map_none, add_sv, aug_sv, len_sv, sub_sv, cut_sv, find_sv, find3_sv, index_sv, in_sv, r_index, r_rjust, r_find, r_find3, r_join, if_true, bx, nx, nxc, tx, ny_next, ny_cont, ny_brk, ny_ret, ny_exc, len_app, len_lst, len_tup, tuple_lst, r_app, append_app, add_tup, add_lst, sub_tup, sub_lst, slice_tup, slice_lst, at_0, at_1, at_2, at_3, at_m1, rg1_ok, rg2_ok, Int.toNat_natCast, int_int, abs_int, min_int, max_int, slice_scr, e4, e5, a1, a2, cut_to, cut_from, cut_mid, l_nil, j, wi, jt, et, q, Bool.not_true]
  exact ⟨_, rfl⟩
theorem body3 (G : Good ws) (k : Nat) (hk : k < ws.length) : ∃ t7 t10 : Option PV,
    evSs C (Fx.run C 40) f_law_b3 [s0, s1, s2, some (.tup (ws.map sv)), some (.lst ((leafs 0 1 ws).map sv)), s5, some (.int (k : Nat)), s7, s8, s9, s10, s11, s12, s13, s14, s15, s16, s17] h =
    .next [s0, s1, s2, some (.tup (ws.map sv)), some (.lst ((leafs 0 1 ws).map sv)), s5, some (.int (k : Nat)), t7, s8, s9, t10, s11, s12, s13, s14, s15, s16, s17] h := by
  have f5 := G.five
  have ll := len_leafs ws 0 1
  have ln := line24
  have lm : ((leafs 0 1 ws).map sv).length ≤ 5 := by rw [List.length_map]; omega
  have hl : ((leafs 0 1 ws).map sv).length = ws.length := by rw [List.length_map, ll]
  have e4 : (k : Int) + 1 = ((k + 1 : Nat) : Int) := by omega
  have e6 : ((ws.length : Nat) : Int) - (((k + 1 : Nat)) : Int) = ((ws.length - (k + 1) : Nat) : Int) := by omega
  rw [b3_eq]
  have e0 : ∃ t7 t10 : Option PV, evS C (Fx.run C 40) b3_0 [s0, s1, s2, some (.tup (ws.map sv)), some (.lst ((leafs 0 1 ws).map sv)), s5, some (.int (k : Nat)), s7, s8, s9, s10, s11, s12, s13, s14, s15, s16, s17] h =
      .next [s0, s1, s2, some (.tup (ws.map sv)), some (.lst ((leafs 0 1 ws).map sv)), s5, some (.int (k : Nat)), t7, s8, s9, t10, s11, s12, s13, s14, s15, s16, s17] h := by
    unfold b3_0
    simp (disch := first | assumption | omega | (simp only [List.length_append, List.length_cons, List.length_nil, List.length_take, List.length_drop, List.length_replicate, List.length_map]; omega)) only [startP, List.map_cons, List.map_nil, List.length_cons, List.length_nil, List.replicate_succ, List.replicate_zero, List.cons_append, List.nil_append, Nat.add_zero, Nat.zero_add, Nat.reduceAdd, Nat.reduceSub, Nat.reduceLT, Nat.reduceLeDiff, List.getElem?_cons_succ, List.getElem?_cons_zero, List.set_cons_succ, List.set_cons_zero, bind_ok, bind_exc, calm_ok, lift_some,
      x_var, x_int, x_lit, x_bl, x_non, x_bin, x_neg, x_cmp, x_chain, x_bool, x_not, x_ite, x_call, x_bcall, x_isi, x_meth, x_tup, x_listT, x_listF, x_sub, x_slice, x_nil, x_cons, x_onone, x_osome, x_tnil, x_tcons, x_b1, x_and, x_or, x_seq, x_range1, x_range2, x_enum,
      s_nil, s_cons, s_expr, s_ret, s_retN, s_asg, s_par, s_aug, s_if, s_raise, s_try, s_pass, s_brk, s_cont, h_nil, h_cons, tru_bl, b_add, b_sub, b_addI, b_mulI, b_mod, b_fdiv, a_addI, a_subI, c_eq, c_ne, c_lt, c_le, c_gt, c_ge, c_in, c_nin, c_isN, c_isnotN, eq_int, bindN, bindTp, setA0, setA1, omap, Option.map_some, Option.map_none, add_sv, aug_sv, len_sv, sub_sv, cut_sv, find_sv, find3_sv, index_sv, in_sv, r_index, r_rjust, r_find, r_find3, r_join, if_true, bx, nx, nxc, tx, ny_next, ny_cont, ny_brk, ny_ret, ny_exc, len_app, len_lst, len_tup, tuple_lst, r_app, append_app, add_tup, add_lst, sub_tup, sub_lst, slice_tup, slice_lst, at_0, at_1, at_2, at_3, at_m1, rg1_ok, rg2_ok, Int.toNat_natCast, int_int, abs_int, min_int, max_int, slice_scr, s_for, hl, e4, e6]
    generalize hq : forL _ _ _ _ _ _ = q
    obtain ⟨σ', h', rfl, e2, t7, t10, e3⟩ := for_q hq (fun i σ g => g = h ∧ ∃ t7 t10, σ = [s0, s1, s2, some (.tup (ws.map sv)), some (.lst ((leafs 0 1 ws).map sv)), s5, some (.int (k : Nat)), t7, s8, s9, t10, s11, s12, s13, s14, s15, s16, s17]) (fun _ _ _ _ => rfl) ⟨rfl, _, _, rfl⟩ (by
      rintro i x σ g hx ⟨rfl, t7, t10, rfl⟩
      have hx' : x = .int ((k + 1 + i : Nat) : Int) ∧ k + 1 + i < ws.length := by
        unfold rangeL at hx
        rw [List.getElem?_map] at hx
        obtain ⟨j, e1, e2⟩ := Option.map_eq_some_iff.mp hx
        obtain ⟨hl, ej⟩ := List.getElem?_eq_some_iff.mp e1
        rw [List.getElem_range] at ej
        subst ej
        rw [List.length_range] at hl
        rw [← e2]
        exact ⟨by congr 1, by omega⟩
      obtain ⟨rfl, hi⟩ := hx'
      obtain ⟨u10, e⟩ := n2 (s0 := s0) (s1 := s1) (s2 := s2) (s5 := s5) (s8 := s8) (s9 := s9) (s10 := t10) (s11 := s11) (s12 := s12) (s13 := s13) (s14 := s14) (s15 := s15) (s16 := s16) (s17 := s17) (h := g) G k (k + 1 + i) (by omega) hi
      simp (disch := first | assumption | omega | (simp only [List.length_append, List.length_cons, List.length_nil, List.length_take, List.length_drop, List.length_replicate, List.length_map]; omega)) only [startP, List.map_cons, List.map_nil, List.length_cons, List.length_nil, List.replicate_succ, List.replicate_zero, List.cons_append, List.nil_append, Nat.add_zero, Nat.zero_add, Nat.reduceAdd, Nat.reduceSub, Nat.reduceLT, Nat.reduceLeDiff, List.getElem?_cons_succ, List.getElem?_cons_zero, List.set_cons_succ, List.set_cons_zero, bind_ok, bind_exc, calm_ok, lift_some,
      x_var, x_int, x_lit, x_bl, x_non, x_bin, x_neg, x_cmp, x_chain, x_bool, x_not, x_ite, x_call, x_bcall, x_isi, x_meth, x_tup, x_listT, x_listF, x_sub, x_slice, x_nil, x_cons, x_onone, x_osome, x_tnil, x_tcons, x_b1, x_and, x_or, x_seq, x_range1, x_range2, x_enum,
      s_nil, s_cons, s_expr, s_ret, s_retN, s_asg, s_par, s_aug, s_if, s_raise, s_try, s_pass, s_brk, s_cont, h_nil, h_cons, tru_bl, b_add, b_sub, b_addI, b_mulI, b_mod, b_fdiv, a_addI, a_subI, c_eq, c_ne, c_lt, c_le, c_gt, c_ge, c_in, c_nin, c_isN, c_isnotN, eq_int, bindN, bindTp, setA0, setA1, omap, Option.map_some, Option.map_none, add_sv, aug_sv, len_sv, sub_sv, cut_sv, find_sv, find3_sv, index_sv, in_sv, r_index, r_rjust, r_find, r_find3, r_join, if_true, bx, nx, nxc, tx, ny_next, ny_cont, ny_brk, ny_ret, ny_exc, len_app, len_lst, len_tup, tuple_lst, r_app, append_app, add_tup, add_lst, sub_tup, sub_lst, slice_tup, slice_lst, at_0, at_1, at_2, at_3, at_m1, rg1_ok, rg2_ok, Int.toNat_natCast, int_int, abs_int, min_int, max_int, slice_scr, e]
      exact ⟨trivial, _, _, rfl⟩)
    subst e2 e3
    exact ⟨_, _, rfl⟩
  obtain ⟨t7, t10, e0⟩ := e0
  refine ⟨t7, t10, ?_⟩
  rw [next_cons e0]
  have ek := List.getElem?_eq_getElem (show k < (leafs 0 1 ws).length by omega)
  have hc1 : ((leafs 0 1 ws).drop k).flatten[0]? ≠ some (48 + (1 + (k + 1))) := by
    rw [List.drop_eq_getElem_cons (show k < (leafs 0 1 ws).length by omega), List.flatten_cons, first_at G ek]
    intro z
    have := Option.some.inj z
    omega
  have w1 := words_leafs G (k + 1) (by omega) ((leafs 0 1 ws).drop k) (fun l m => List.mem_of_mem_drop m) (by rw [List.length_drop]; omega) hc1
  have j1 := fun h => G.jn (h := h) ((leafs 0 1 ws).take (k + 1) ++ (leafs 0 1 ws).drop k) (by
    intro l m
    rcases List.mem_append.mp m with m | m
    · exact List.mem_of_mem_take m
    · exact List.mem_of_mem_drop m) (by rw [List.length_append, List.length_take, List.length_drop]; omega) (.lst (((leafs 0 1 ws).map sv).take (k + 1) ++ ((leafs 0 1 ws).map sv).drop k)) (by simp [asL])
  have jt1 := fun h => G.jnt (h := h) (k + 1)
  have fln1 := G.flen (k + 1)
  have q1 := fun g => ans_eq g (G.takeok (k + 1))
  have et1 : ((ws.map sv).take (k + 1)) = (ws.take (k + 1)).map sv := List.map_take.symm
  rw [ans_is] at w1 q1
  have e1 : evS C (Fx.run C 40) b3_1 [s0, s1, s2, some (.tup (ws.map sv)), some (.lst ((leafs 0 1 ws).map sv)), s5, some (.int (k : Nat)), t7, s8, s9, t10, s11, s12, s13, s14, s15, s16, s17] h =
      .next [s0, s1, s2, some (.tup (ws.map sv)), some (.lst ((leafs 0 1 ws).map sv)), s5, some (.int (k : Nat)), t7, s8, s9, t10, s11, s12, s13, s14, s15, s16, s17] h := by
    unfold b3_1
    simp (disch := first | assumption | omega | (simp only [List.length_append, List.length_cons, List.length_nil, List.length_take, List.length_drop, List.length_replicate, List.length_map]; omega)) only [startP, List.map_cons, List.map_nil, List.length_cons, List.length_nil, List.replicate_succ, List.replicate_zero, List.cons_append, List.nil_append, Nat.add_zero, Nat.zero_add, Nat.reduceAdd, Nat.reduceSub, Nat.reduceLT, Nat.reduceLeDiff, List.getElem?_cons_succ, List.getElem?_cons_zero, List.set_cons_succ, List.set_cons_zero, bind_ok, bind_exc, calm_ok, lift_some,
      x_var, x_int, x_lit, x_bl, x_non, x_bin, x_neg, x_cmp, x_chain, x_bool, x_not, x_ite, x_call, x_bcall, x_isi, x_meth, x_tup, x_listT, x_listF, x_sub, x_slice, x_nil, x_cons, x_onone, x_osome, x_tnil, x_tcons, x_b1, x_and, x_or, x_seq, x_range1, x_range2, x_enum,
      s_nil, s_cons, s_expr, s_ret, s_retN, s_asg, s_par, s_aug, s_if, s_raise, s_try, s_pass, s_brk, s_cont, h_nil, h_cons, tru_bl, b_add, b_sub, b_addI, b_mulI, b_mod, b_fdiv, a_addI, a_subI, c_eq, c_ne, c_lt, c_le, c_gt, c_ge, c_in, c_nin, c_isN, c_isnotN, eq_int, bindN, bindTp, setA0, setA1, omap, Option.map_some, Option.map_none, add_sv, aug_sv, len_sv, sub_sv, cut_sv, find_sv, find3_sv, index_sv, in_sv, r_index, r_rjust, r_find, r_find3, r_join, if_true, bx, nx, nxc, tx, ny_next, ny_cont, ny_brk, ny_ret, ny_exc, len_app, len_lst, len_tup, tuple_lst, r_app, append_app, add_tup, add_lst, sub_tup, sub_lst, slice_tup, slice_lst, at_0, at_1, at_2, at_3, at_m1, rg1_ok, rg2_ok, Int.toNat_natCast, int_int, abs_int, min_int, max_int, slice_scr, e4, cut_to, cut_from, l_nil, j1, w1, jt1, et1, q1, Bool.not_true]
  rw [next_cons e1]
  have w2 : k + 1 < ws.length → ∀ g, Fx.run C 40 1108 [sv ((leafs 0 1 ws).take k ++ (leafs 0 1 ws).drop (k + 1)).flatten] g = .ok (ans (ws.take k)) g := fun hk2 => by
    refine words_leafs G k (by omega) ((leafs 0 1 ws).drop (k + 1)) (fun l m => List.mem_of_mem_drop m) (by rw [List.length_drop]; omega) ?_
    rw [List.drop_eq_getElem_cons (show k + 1 < (leafs 0 1 ws).length by omega), List.flatten_cons, first_at G (List.getElem?_eq_getElem (show k + 1 < (leafs 0 1 ws).length by omega))]
    intro z
    have := Option.some.inj z
    omega
  have j2 := fun h => G.jn (h := h) ((leafs 0 1 ws).take k ++ (leafs 0 1 ws).drop (k + 1)) (by
    intro l m
    rcases List.mem_append.mp m with m | m
    · exact List.mem_of_mem_take m
    · exact List.mem_of_mem_drop m) (by rw [List.length_append, List.length_take, List.length_drop]; omega) (.lst (((leafs 0 1 ws).map sv).take k ++ ((leafs 0 1 ws).map sv).drop (k + 1))) (by simp [asL])
  have jt2 := fun h => G.jnt (h := h) k
  have fln2 := G.flen k
  have q2 := fun g => ans_eq g (G.takeok k)
  have et2 : ((ws.map sv).take k) = (ws.take k).map sv := List.map_take.symm
  have e2 : evS C (Fx.run C 40) b3_2 [s0, s1, s2, some (.tup (ws.map sv)), some (.lst ((leafs 0 1 ws).map sv)), s5, some (.int (k : Nat)), t7, s8, s9, t10, s11, s12, s13, s14, s15, s16, s17] h =
      .next [s0, s1, s2, some (.tup (ws.map sv)), some (.lst ((leafs 0 1 ws).map sv)), s5, some (.int (k : Nat)), t7, s8, s9, t10, s11, s12, s13, s14, s15, s16, s17] h := by
    unfold b3_2
    by_cases c : k + 1 < ws.length
    · have w2 := w2 c
      rw [ans_is] at w2 q2
      have c1 : (k : Int) < ((ws.length : Nat) : Int) - 1 := by omega
      simp (disch := first | assumption | omega | (simp only [List.length_append, List.length_cons, List.length_nil, List.length_take, List.length_drop, List.length_replicate, List.length_map]; omega)) only [startP, List.map_cons, List.map_nil, List.length_cons, List.length_nil, List.replicate_succ, List.replicate_zero, List.cons_append, List.nil_append, Nat.add_zero, Nat.zero_add, Nat.reduceAdd, Nat.reduceSub, Nat.reduceLT, Nat.reduceLeDiff, List.getElem?_cons_succ, List.getElem?_cons_zero, List.set_cons_succ, List.set_cons_zero, bind_ok, bind_exc, calm_ok, lift_some,
      x_var, x_int, x_lit, x_bl, x_non, x_bin, x_neg, x_cmp, x_chain, x_bool, x_not, x_ite, x_call, x_bcall, x_isi, x_meth, x_tup, x_listT, x_listF, x_sub, x_slice, x_nil, x_cons, x_onone, x_osome, x_tnil, x_tcons, x_b1, x_and, x_or, x_seq, x_range1, x_range2, x_enum,
      s_nil, s_cons, s_expr, s_ret, s_retN, s_asg, s_par, s_aug, s_if, s_raise, s_try, s_pass, s_brk, s_cont, h_nil, h_cons, tru_bl, b_add, b_sub, b_addI, b_mulI, b_mod, b_fdiv, a_addI, a_subI, c_eq, c_ne, c_lt, c_le, c_gt, c_ge, c_in, c_nin, c_isN, c_isnotN, eq_int, bindN, bindTp, setA0, setA1, omap, Option.map_some, Option.map_none, add_sv, aug_sv, len_sv, sub_sv, cut_sv, find_sv, find3_sv, index_sv, in_sv, r_index, r_rjust, r_find, r_find3, r_join, if_true, bx, nx, nxc, tx, ny_next, ny_cont, ny_brk, ny_ret, ny_exc, len_app, len_lst, len_tup, tuple_lst, r_app, append_app, add_tup, add_lst, sub_tup, sub_lst, slice_tup, slice_lst, at_0, at_1, at_2, at_3, at_m1, rg1_ok, rg2_ok, Int.toNat_natCast, int_int, abs_int, min_int, max_int, slice_scr, hl, decide_eq_true c1, e4, cut_to, cut_from, l_nil, j2, w2, jt2, et2, q2, Bool.not_true]
    · have c1 : ¬ (k : Int) < ((ws.length : Nat) : Int) - 1 := by omega
      simp (disch := first | assumption | omega | (simp only [List.length_append, List.length_cons, List.length_nil, List.length_take, List.length_drop, List.length_replicate, List.length_map]; omega)) only [startP, List.map_cons, List.map_nil, List.length_cons, List.length_nil, List.replicate_succ, List.replicate_zero, List.cons_append, List.nil_append, Nat.add_zero, Nat.zero_add, Nat.reduceAdd, Nat.reduceSub, Nat.reduceLT, Nat.reduceLeDiff, List.getElem?_cons_succ, List.getElem?_cons_zero, List.set_cons_succ, List.set_cons_zero, bind_ok, bind_exc, calm_ok, lift_some,
      x_var, x_int, x_lit, x_bl, x_non, x_bin, x_neg, x_cmp, x_chain, x_bool, x_not, x_ite, x_call, x_bcall, x_isi, x_meth, x_tup, x_listT, x_listF, x_sub, x_slice, x_nil, x_cons, x_onone, x_osome, x_tnil, x_tcons, x_b1, x_and, x_or, x_seq, x_range1, x_range2, x_enum,
      s_nil, s_cons, s_expr, s_ret, s_retN, s_asg, s_par, s_aug, s_if, s_raise, s_try, s_pass, s_brk, s_cont, h_nil, h_cons, tru_bl, b_add, b_sub, b_addI, b_mulI, b_mod, b_fdiv, a_addI, a_subI, c_eq, c_ne, c_lt, c_le, c_gt, c_ge, c_in, c_nin, c_isN, c_isnotN, eq_int, bindN, bindTp, setA0, setA1, omap, Option.map_some, Option.map_none, add_sv, aug_sv, len_sv, sub_sv, cut_sv, find_sv, find3_sv, index_sv, in_sv, r_index, r_rjust, r_find, r_find3, r_join, if_true, bx, nx, nxc, tx, ny_next, ny_cont, ny_brk, ny_ret, ny_exc, len_app, len_lst, len_tup, tuple_lst, r_app, append_app, add_tup, add_lst, sub_tup, sub_lst, slice_tup, slice_lst, at_0, at_1, at_2, at_3, at_m1, rg1_ok, rg2_ok, Int.toNat_natCast, int_int, abs_int, min_int, max_int, slice_scr, hl, decide_eq_false c1]
  rw [next_cons e2, s_nil]
theorem nx3 (G : Good ws) (k : Nat) (hk : k < ws.length) : Nx (evSs C (Fx.run C 40) f_law_b3 [s0, s1, s2, some (.tup (ws.map sv)), some (.lst ((leafs 0 1 ws).map sv)), s5, some (.int (k : Nat)), s7, s8, s9, s10, s11, s12, s13, s14, s15, s16, s17] h) fun σ g =>
    g = h ∧ ∃ t6 t7 t10, σ = [s0, s1, s2, some (.tup (ws.map sv)), some (.lst ((leafs 0 1 ws).map sv)), s5, t6, t7, s8, s9, t10, s11, s12, s13, s14, s15, s16, s17] := by
  obtain ⟨u7, u10, e⟩ := body3 (s0 := s0) (s1 := s1) (s2 := s2) (s5 := s5) (s7 := s7) (s8 := s8) (s9 := s9) (s10 := s10) (s11 := s11) (s12 := s12) (s13 := s13) (s14 := s14) (s15 := s15) (s16 := s16) (s17 := s17) (h := h) G k hk
  rw [e, nx]
  exact ⟨rfl, _, _, _, rfl⟩
theorem do7 (G : Good ws) : ∃ t6 t7 t10 : Option PV,
    evS C (Fx.run C 40) b6_6 [s0, s1, s2, some (.tup (ws.map sv)), some (.lst ((leafs 0 1 ws).map sv)), s5, s6, s7, s8, s9, s10, s11, s12, s13, s14, s15, s16, s17] h =
    .next [s0, s1, s2, some (.tup (ws.map sv)), some (.lst ((leafs 0 1 ws).map sv)), s5, t6, t7, s8, s9, t10, s11, s12, s13, s14, s15, s16, s17] h := by
  have f5 := G.five
  have ll := len_leafs ws 0 1
  have lm : ((leafs 0 1 ws).map sv).length ≤ 5 := by rw [List.length_map]; omega
  have hl : ((leafs 0 1 ws).map sv).length = ws.length := by rw [List.length_map, ll]
  unfold b6_6
  simp (disch := first | assumption | omega | (simp only [List.length_append, List.length_cons, List.length_nil, List.length_take, List.length_drop, List.length_replicate, List.length_map]; omega)) only [startP, List.map_cons, List.map_nil, List.length_cons, List.length_nil, List.replicate_succ, List.replicate_zero, List.cons_append, List.nil_append, Nat.add_zero, Nat.zero_add, Nat.reduceAdd, Nat.reduceSub, Nat.reduceLT, Nat.reduceLeDiff, List.getElem?_cons_succ, List.getElem?_cons_zero, List.set_cons_succ, List.set_cons_zero, bind_ok, bind_exc, calm_ok, lift_some,
      x_var, x_int, x_lit, x_bl, x_non, x_bin, x_neg, x_cmp, x_chain, x_bool, x_not, x_ite, x_call, x_bcall, x_isi, x_meth, x_tup, x_listT, x_listF, x_sub, x_slice, x_nil, x_cons, x_onone, x_osome, x_tnil, x_tcons, x_b1, x_and, x_or, x_seq, x_range1, x_range2, x_enum,
      s_nil, s_cons, s_expr, s_ret, s_retN, s_asg, s_par, s_aug, s_if, s_raise, s_try, s_pass, s_brk, s_cont, h_nil, h_cons, tru_bl, b_add, b_sub, b_addI, b_mulI, b_mod, b_fdiv, a_addI, a_subI, c_eq, c_ne, c_lt, c_le, c_gt, c_ge, c_in, c_nin, c_isN, c_isnotN, eq_int, bindN, bindTp, setA0, setA1, omap, Option.map_some, Option.map_none, add_sv, aug_sv, len_sv, sub_sv, cut_sv, find_sv, find3_sv, index_sv, in_sv, r_index, r_rjust, r_find, r_find3, r_join, if_true, bx, nx, nxc, tx, ny_next, ny_cont, ny_brk, ny_ret, ny_exc, len_app, len_lst, len_tup, tuple_lst, r_app, append_app, add_tup, add_lst, sub_tup, sub_lst, slice_tup, slice_lst, at_0, at_1, at_2, at_3, at_m1, rg1_ok, rg2_ok, Int.toNat_natCast, int_int, abs_int, min_int, max_int, slice_scr, s_for, hl]
  generalize hq : forL _ _ _ _ _ _ = q
  obtain ⟨σ', h', rfl, e2, t6, t7, t10, e3⟩ := for_q hq (fun i σ g => g = h ∧ ∃ t6 t7 t10, σ = [s0, s1, s2, some (.tup (ws.map sv)), some (.lst ((leafs 0 1 ws).map sv)), s5, t6, t7, s8, s9, t10, s11, s12, s13, s14, s15, s16, s17]) (fun _ _ _ _ => rfl) ⟨rfl, _, _, _, rfl⟩ (by
    rintro i x σ g hx ⟨rfl, t6, t7, t10, rfl⟩
    obtain ⟨rfl, hi⟩ := rangeL_at _ _ _ hx
    simp (disch := first | assumption | omega | (simp only [List.length_append, List.length_cons, List.length_nil, List.length_take, List.length_drop, List.length_replicate, List.length_map]; omega)) only [startP, List.map_cons, List.map_nil, List.length_cons, List.length_nil, List.replicate_succ, List.replicate_zero, List.cons_append, List.nil_append, Nat.add_zero, Nat.zero_add, Nat.reduceAdd, Nat.reduceSub, Nat.reduceLT, Nat.reduceLeDiff, List.getElem?_cons_succ, List.getElem?_cons_zero, List.set_cons_succ, List.set_cons_zero, bind_ok, bind_exc, calm_ok, lift_some,
      x_var, x_int, x_lit, x_bl, x_non, x_bin, x_neg, x_cmp, x_chain, x_bool, x_not, x_ite, x_call, x_bcall, x_isi, x_meth, x_tup, x_listT, x_listF, x_sub, x_slice, x_nil, x_cons, x_onone, x_osome, x_tnil, x_tcons, x_b1, x_and, x_or, x_seq, x_range1, x_range2, x_enum,
      s_nil, s_cons, s_expr, s_ret, s_retN, s_asg, s_par, s_aug, s_if, s_raise, s_try, s_pass, s_brk, s_cont, h_nil, h_cons, tru_bl, b_add, b_sub, b_addI, b_mulI, b_mod, b_fdiv, a_addI, a_subI, c_eq, c_ne, c_lt, c_le, c_gt, c_ge, c_in, c_nin, c_isN, c_isnotN, eq_int, bindN, bindTp, setA0, setA1, omap, Option.map_some, Option.map_none, add_sv, aug_sv, len_sv, sub_sv, cut_sv, find_sv, find3_sv, index_sv, in_sv, r_index, r_rjust, r_find, r_find3, r_join, if_true, bx, nx, nxc, tx, ny_next, ny_cont, ny_brk, ny_ret, ny_exc, len_app, len_lst, len_tup, tuple_lst, r_app, append_app, add_tup, add_lst, sub_tup, sub_lst, slice_tup, slice_lst, at_0, at_1, at_2, at_3, at_m1, rg1_ok, rg2_ok, Int.toNat_natCast, int_int, abs_int, min_int, max_int, slice_scr]
    exact nx3 G i hi)
  subst e2 e3
  exact ⟨_, _, _, rfl⟩
end
end K54
end
section
set_option Elab.async false
set_option linter.all false
set_option maxRecDepth 100000
set_option maxHeartbeats 1000000
/-! the turn: heads. -/
namespace K54
open PySem Fx Lv
open SX (S)
open L2 (atI)
section
variable {ws : List (List Nat)} {s0 s1 s2 s3 s4 s5 s6 s7 s8 s9 s10 s11 s12 s13 s14 s15 s16 s17 : Option PV} {h : PHeap}
theorem comp_digs2 (k N : Nat) (q : N < 100000) (hd : List Nat) (g : PHeap) (ls : ∀ g, Fx.run C k 9001 [.int 0, sv hd] g = .ok (.int (N : Nat)) g) :
    evE C (Fx.run C k) (.comp (.slice (.bcall .str (.cons (.bin .FloorDiv (.call 9001 (.cons (.int 0) (.cons (.var 14) .nil))) (.var 17)) .nil)) (.some (.neg (.int 1))) .none) (.name 17) (.seq (.list false (.cons (.int 10000) (.cons (.int 1000) (.cons (.int 100) (.cons (.int 10) (.cons (.int 1) .nil))))))) .nil [((PySem.Str.ofString "size"), 17)])
      [s0, s1, s2, s3, s4, s5, s6, s7, s8, s9, s10, s11, s12, s13, some (sv hd), s15, s16, s17] g = .ok (.lst (digs N)) g := by
  have ln := line24
  refine ev_comp (items := [.int 10000, .int 1000, .int 100, .int 10, .int 1]) (w := none) (fun v => match v with
    | .int s => sv [48 + N / s.toNat % 10]
    | v => v) (by simp (disch := first | assumption | omega | (simp only [List.length_append, List.length_cons, List.length_nil, List.length_take, List.length_drop, List.length_replicate, List.length_map]; omega)) only [startP, List.map_cons, List.map_nil, List.length_cons, List.length_nil, List.replicate_succ, List.replicate_zero, List.cons_append, List.nil_append, Nat.add_zero, Nat.zero_add, Nat.reduceAdd, Nat.reduceSub, Nat.reduceLT, Nat.reduceLeDiff, List.getElem?_cons_succ, List.getElem?_cons_zero, List.set_cons_succ, List.set_cons_zero, bind_ok, bind_exc, calm_ok, lift_some,
      x_var, x_int, x_lit, x_bl, x_non, x_bin, x_neg, x_cmp, x_chain, x_bool, x_not, x_ite, x_call, x_bcall, x_isi, x_meth, x_tup, x_listT, x_listF, x_sub, x_slice, x_nil, x_cons, x_onone, x_osome, x_tnil, x_tcons, x_b1, x_and, x_or, x_seq, x_range1, x_range2, x_enum,
      s_nil, s_cons, s_expr, s_ret, s_retN, s_asg, s_par, s_aug, s_if, s_raise, s_try, s_pass, s_brk, s_cont, h_nil, h_cons, tru_bl, b_add, b_sub, b_addI, b_mulI, b_mod, b_fdiv, a_addI, a_subI, c_eq, c_ne, c_lt, c_le, c_gt, c_ge, c_in, c_nin, c_isN, c_isnotN, eq_int, bindN, bindTp, setA0, setA1, omap, Option.map_some, Option.map_none, add_sv, aug_sv, len_sv, sub_sv, cut_sv, find_sv, find3_sv, index_sv, in_sv, r_index, r_rjust, r_find, r_find3, r_join, if_true, bx, nx, nxc, tx, ny_next, ny_cont, ny_brk, ny_ret, ny_exc, len_app, len_lst, len_tup, tuple_lst, r_app, append_app, add_tup, add_lst, sub_tup, sub_lst, slice_tup, slice_lst, at_0, at_1, at_2, at_3, at_m1, rg1_ok, rg2_ok, Int.toNat_natCast, int_int, abs_int, min_int, max_int, slice_scr, seqL]) (fun _ => rfl) (by
    intro x hx acc
    simp only [List.mem_cons, List.not_mem_nil, or_false] at hx
    rcases hx with rfl | rfl | rfl | rfl | rfl
    · refine ⟨_, rfl, ?_⟩
      have e : ((N : Int) / 10000) = ((N / 10000 : Nat) : Int) := rfl
      have l9 := num_len (show N / 10000 < 1000000000 by omega)
      simp (disch := first | assumption | omega | (simp only [List.length_append, List.length_cons, List.length_nil, List.length_take, List.length_drop, List.length_replicate, List.length_map]; omega)) only [startP, List.map_cons, List.map_nil, List.length_cons, List.length_nil, List.replicate_succ, List.replicate_zero, List.cons_append, List.nil_append, Nat.add_zero, Nat.zero_add, Nat.reduceAdd, Nat.reduceSub, Nat.reduceLT, Nat.reduceLeDiff, List.getElem?_cons_succ, List.getElem?_cons_zero, List.set_cons_succ, List.set_cons_zero, bind_ok, bind_exc, calm_ok, lift_some,
      x_var, x_int, x_lit, x_bl, x_non, x_bin, x_neg, x_cmp, x_chain, x_bool, x_not, x_ite, x_call, x_bcall, x_isi, x_meth, x_tup, x_listT, x_listF, x_sub, x_slice, x_nil, x_cons, x_onone, x_osome, x_tnil, x_tcons, x_b1, x_and, x_or, x_seq, x_range1, x_range2, x_enum,
      s_nil, s_cons, s_expr, s_ret, s_retN, s_asg, s_par, s_aug, s_if, s_raise, s_try, s_pass, s_brk, s_cont, h_nil, h_cons, tru_bl, b_add, b_sub, b_addI, b_mulI, b_mod, b_fdiv, a_addI, a_subI, c_eq, c_ne, c_lt, c_le, c_gt, c_ge, c_in, c_nin, c_isN, c_isnotN, eq_int, bindN, bindTp, setA0, setA1, omap, Option.map_some, Option.map_none, add_sv, aug_sv, len_sv, sub_sv, cut_sv, find_sv, find3_sv, index_sv, in_sv, r_index, r_rjust, r_find, r_find3, r_join, if_true, bx, nx, nxc, tx, ny_next, ny_cont, ny_brk, ny_ret, ny_exc, len_app, len_lst, len_tup, tuple_lst, r_app, append_app, add_tup, add_lst, sub_tup, sub_lst, slice_tup, slice_lst, at_0, at_1, at_2, at_3, at_m1, rg1_ok, rg2_ok, Int.toNat_natCast, int_int, abs_int, min_int, max_int, slice_scr, wipeP, ls, e, b_str, cut_m1, num_drop]
      rfl
    · refine ⟨_, rfl, ?_⟩
      have e : ((N : Int) / 1000) = ((N / 1000 : Nat) : Int) := rfl
      have l9 := num_len (show N / 1000 < 1000000000 by omega)
      simp (disch := first | assumption | omega | (simp only [List.length_append, List.length_cons, List.length_nil, List.length_take, List.length_drop, List.length_replicate, List.length_map]; omega)) only [startP, List.map_cons, List.map_nil, List.length_cons, List.length_nil, List.replicate_succ, List.replicate_zero, List.cons_append, List.nil_append, Nat.add_zero, Nat.zero_add, Nat.reduceAdd, Nat.reduceSub, Nat.reduceLT, Nat.reduceLeDiff, List.getElem?_cons_succ, List.getElem?_cons_zero, List.set_cons_succ, List.set_cons_zero, bind_ok, bind_exc, calm_ok, lift_some,
      x_var, x_int, x_lit, x_bl, x_non, x_bin, x_neg, x_cmp, x_chain, x_bool, x_not, x_ite, x_call, x_bcall, x_isi, x_meth, x_tup, x_listT, x_listF, x_sub, x_slice, x_nil, x_cons, x_onone, x_osome, x_tnil, x_tcons, x_b1, x_and, x_or, x_seq, x_range1, x_range2, x_enum,
      s_nil, s_cons, s_expr, s_ret, s_retN, s_asg, s_par, s_aug, s_if, s_raise, s_try, s_pass, s_brk, s_cont, h_nil, h_cons, tru_bl, b_add, b_sub, b_addI, b_mulI, b_mod, b_fdiv, a_addI, a_subI, c_eq, c_ne, c_lt, c_le, c_gt, c_ge, c_in, c_nin, c_isN, c_isnotN, eq_int, bindN, bindTp, setA0, setA1, omap, Option.map_some, Option.map_none, add_sv, aug_sv, len_sv, sub_sv, cut_sv, find_sv, find3_sv, index_sv, in_sv, r_index, r_rjust, r_find, r_find3, r_join, if_true, bx, nx, nxc, tx, ny_next, ny_cont, ny_brk, ny_ret, ny_exc, len_app, len_lst, len_tup, tuple_lst, r_app, append_app, add_tup, add_lst, sub_tup, sub_lst, slice_tup, slice_lst, at_0, at_1, at_2, at_3, at_m1, rg1_ok, rg2_ok, Int.toNat_natCast, int_int, abs_int, min_int, max_int, slice_scr, wipeP, ls, e, b_str, cut_m1, num_drop]
      rfl
    · refine ⟨_, rfl, ?_⟩
      have e : ((N : Int) / 100) = ((N / 100 : Nat) : Int) := rfl
      have l9 := num_len (show N / 100 < 1000000000 by omega)
      simp (disch := first | assumption | omega | (simp only [List.length_append, List.length_cons, List.length_nil, List.length_take, List.length_drop, List.length_replicate, List.length_map]; omega)) only [startP, List.map_cons, List.map_nil, List.length_cons, List.length_nil, List.replicate_succ, List.replicate_zero, List.cons_append, List.nil_append, Nat.add_zero, Nat.zero_add, Nat.reduceAdd, Nat.reduceSub, Nat.reduceLT, Nat.reduceLeDiff, List.getElem?_cons_succ, List.getElem?_cons_zero, List.set_cons_succ, List.set_cons_zero, bind_ok, bind_exc, calm_ok, lift_some,
      x_var, x_int, x_lit, x_bl, x_non, x_bin, x_neg, x_cmp, x_chain, x_bool, x_not, x_ite, x_call, x_bcall, x_isi, x_meth, x_tup, x_listT, x_listF, x_sub, x_slice, x_nil, x_cons, x_onone, x_osome, x_tnil, x_tcons, x_b1, x_and, x_or, x_seq, x_range1, x_range2, x_enum,
      s_nil, s_cons, s_expr, s_ret, s_retN, s_asg, s_par, s_aug, s_if, s_raise, s_try, s_pass, s_brk, s_cont, h_nil, h_cons, tru_bl, b_add, b_sub, b_addI, b_mulI, b_mod, b_fdiv, a_addI, a_subI, c_eq, c_ne, c_lt, c_le, c_gt, c_ge, c_in, c_nin, c_isN, c_isnotN, eq_int, bindN, bindTp, setA0, setA1, omap, Option.map_some, Option.map_none, add_sv, aug_sv, len_sv, sub_sv, cut_sv, find_sv, find3_sv, index_sv, in_sv, r_index, r_rjust, r_find, r_find3, r_join, if_true, bx, nx, nxc, tx, ny_next, ny_cont, ny_brk, ny_ret, ny_exc, len_app, len_lst, len_tup, tuple_lst, r_app, append_app, add_tup, add_lst, sub_tup, sub_lst, slice_tup, slice_lst, at_0, at_1, at_2, at_3, at_m1, rg1_ok, rg2_ok, Int.toNat_natCast, int_int, abs_int, min_int, max_int, slice_scr, wipeP, ls, e, b_str, cut_m1, num_drop]
      rfl
    · refine ⟨_, rfl, ?_⟩
      have e : ((N : Int) / 10) = ((N / 10 : Nat) : Int) := rfl
      have l9 := num_len (show N / 10 < 1000000000 by omega)
      simp (disch := first | assumption | omega | (simp only [List.length_append, List.length_cons, List.length_nil, List.length_take, List.length_drop, List.length_replicate, List.length_map]; omega)) only [startP, List.map_cons, List.map_nil, List.length_cons, List.length_nil, List.replicate_succ, List.replicate_zero, List.cons_append, List.nil_append, Nat.add_zero, Nat.zero_add, Nat.reduceAdd, Nat.reduceSub, Nat.reduceLT, Nat.reduceLeDiff, List.getElem?_cons_succ, List.getElem?_cons_zero, List.set_cons_succ, List.set_cons_zero, bind_ok, bind_exc, calm_ok, lift_some,
      x_var, x_int, x_lit, x_bl, x_non, x_bin, x_neg, x_cmp, x_chain, x_bool, x_not, x_ite, x_call, x_bcall, x_isi, x_meth, x_tup, x_listT, x_listF, x_sub, x_slice, x_nil, x_cons, x_onone, x_osome, x_tnil, x_tcons, x_b1, x_and, x_or, x_seq, x_range1, x_range2, x_enum,
      s_nil, s_cons, s_expr, s_ret, s_retN, s_asg, s_par, s_aug, s_if, s_raise, s_try, s_pass, s_brk, s_cont, h_nil, h_cons, tru_bl, b_add, b_sub, b_addI, b_mulI, b_mod, b_fdiv, a_addI, a_subI, c_eq, c_ne, c_lt, c_le, c_gt, c_ge, c_in, c_nin, c_isN, c_isnotN, eq_int, bindN, bindTp, setA0, setA1, omap, Option.map_some, Option.map_none, add_sv, aug_sv, len_sv, sub_sv, cut_sv, find_sv, find3_sv, index_sv, in_sv, r_index, r_rjust, r_find, r_find3, r_join, if_true, bx, nx, nxc, tx, ny_next, ny_cont, ny_brk, ny_ret, ny_exc, len_app, len_lst, len_tup, tuple_lst, r_app, append_app, add_tup, add_lst, sub_tup, sub_lst, slice_tup, slice_lst, at_0, at_1, at_2, at_3, at_m1, rg1_ok, rg2_ok, Int.toNat_natCast, int_int, abs_int, min_int, max_int, slice_scr, wipeP, ls, e, b_str, cut_m1, num_drop]
      rfl
    · refine ⟨_, rfl, ?_⟩
      have e : ((N : Int) / 1) = ((N / 1 : Nat) : Int) := rfl
      have l9 := num_len (show N / 1 < 1000000000 by omega)
      simp (disch := first | assumption | omega | (simp only [List.length_append, List.length_cons, List.length_nil, List.length_take, List.length_drop, List.length_replicate, List.length_map]; omega)) only [startP, List.map_cons, List.map_nil, List.length_cons, List.length_nil, List.replicate_succ, List.replicate_zero, List.cons_append, List.nil_append, Nat.add_zero, Nat.zero_add, Nat.reduceAdd, Nat.reduceSub, Nat.reduceLT, Nat.reduceLeDiff, List.getElem?_cons_succ, List.getElem?_cons_zero, List.set_cons_succ, List.set_cons_zero, bind_ok, bind_exc, calm_ok, lift_some,
      x_var, x_int, x_lit, x_bl, x_non, x_bin, x_neg, x_cmp, x_chain, x_bool, x_not, x_ite, x_call, x_bcall, x_isi, x_meth, x_tup, x_listT, x_listF, x_sub, x_slice, x_nil, x_cons, x_onone, x_osome, x_tnil, x_tcons, x_b1, x_and, x_or, x_seq, x_range1, x_range2, x_enum,
      s_nil, s_cons, s_expr, s_ret, s_retN, s_asg, s_par, s_aug, s_if, s_raise, s_try, s_pass, s_brk, s_cont, h_nil, h_cons, tru_bl, b_add, b_sub, b_addI, b_mulI, b_mod, b_fdiv, a_addI, a_subI, c_eq, c_ne, c_lt, c_le, c_gt, c_ge, c_in, c_nin, c_isN, c_isnotN, eq_int, bindN, bindTp, setA0, setA1, omap, Option.map_some, Option.map_none, add_sv, aug_sv, len_sv, sub_sv, cut_sv, find_sv, find3_sv, index_sv, in_sv, r_index, r_rjust, r_find, r_find3, r_join, if_true, bx, nx, nxc, tx, ny_next, ny_cont, ny_brk, ny_ret, ny_exc, len_app, len_lst, len_tup, tuple_lst, r_app, append_app, add_tup, add_lst, sub_tup, sub_lst, slice_tup, slice_lst, at_0, at_1, at_2, at_3, at_m1, rg1_ok, rg2_ok, Int.toNat_natCast, int_int, abs_int, min_int, max_int, slice_scr, wipeP, ls, e, b_str, cut_m1, num_drop]
      rfl) (by rw [ln]; decide) (by
    intro x hx
    simp only [List.mem_cons, List.not_mem_nil, or_false] at hx
    rcases hx with rfl | rfl | rfl | rfl | rfl <;> rfl)
/-- the bent leaf of a head -/
def badB (hd : List Nat) : List Nat := hd ++ [35] ++ pad5 (sumBy 0 hd) ++ [10]
theorem h0 {hd : List Nat} (hs : ∀ c ∈ hd, c ∈ SG) (hl : hd.length ≤ 1000) : evS C (Fx.run C 40) b1_0 [s0, s1, s2, s3, s4, s5, s6, s7, s8, s9, s10, s11, s12, s13, some (sv hd), s15, s16, s17] h =
    .next [s0, s1, s2, s3, s4, s5, s6, s7, s8, s9, s10, s11, s12, s13, some (sv hd), some (sv (badB hd)), s16, s17] h := by
  have ln := line24
  have sl := sum_lt 0 hd
  have p5 := pad5_len (show sumBy 0 hd < 100000 by omega)
  have cd := fun g => comp_digs2 (s0 := s0) (s1 := s1) (s2 := s2) (s3 := s3) (s4 := s4) (s5 := s5) (s6 := s6) (s7 := s7) (s8 := s8) (s9 := s9) (s10 := s10) (s11 := s11) (s12 := s12) (s13 := s13) (s15 := s15) (s16 := s16) (s17 := s17) 40 (sumBy 0 hd) (by omega) hd g (fun g => law_sum 39 0 hd (by omega) hs g)
  have jd := fun g => join_digs g (show sumBy 0 hd < 100000 by omega)
  unfold b1_0
  simp (disch := first | assumption | omega | (simp only [List.length_append, List.length_cons, List.length_nil, List.length_take, List.length_drop, List.length_replicate, List.length_map]; omega)) only [startP, List.map_cons, List.map_nil, List.length_cons, List.length_nil, List.replicate_succ, List.replicate_zero, List.cons_append, List.nil_append, Nat.add_zero, Nat.zero_add, Nat.reduceAdd, Nat.reduceSub, Nat.reduceLT, Nat.reduceLeDiff, List.getElem?_cons_succ, List.getElem?_cons_zero, List.set_cons_succ, List.set_cons_zero, bind_ok, bind_exc, calm_ok, lift_some,
      x_var, x_int, x_lit, x_bl, x_non, x_bin, x_neg, x_cmp, x_chain, x_bool, x_not, x_ite, x_call, x_bcall, x_isi, x_meth, x_tup, x_listT, x_listF, x_sub, x_slice, x_nil, x_cons, x_onone, x_osome, x_tnil, x_tcons, x_b1, x_and, x_or, x_seq, x_range1, x_range2, x_enum,
      s_nil, s_cons, s_expr, s_ret, s_retN, s_asg, s_par, s_aug, s_if, s_raise, s_try, s_pass, s_brk, s_cont, h_nil, h_cons, tru_bl, b_add, b_sub, b_addI, b_mulI, b_mod, b_fdiv, a_addI, a_subI, c_eq, c_ne, c_lt, c_le, c_gt, c_ge, c_in, c_nin, c_isN, c_isnotN, eq_int, bindN, bindTp, setA0, setA1, omap, Option.map_some, Option.map_none, add_sv, aug_sv, len_sv, sub_sv, cut_sv, find_sv, find3_sv, index_sv, in_sv, r_index, r_rjust, r_find, r_find3, r_join, if_true, bx, nx, nxc, tx, ny_next, ny_cont, ny_brk, ny_ret, ny_exc, len_app, len_lst, len_tup, tuple_lst, r_app, append_app, add_tup, add_lst, sub_tup, sub_lst, slice_tup, slice_lst, at_0, at_1, at_2, at_3, at_m1, rg1_ok, rg2_ok, Int.toNat_natCast, int_int, abs_int, min_int, max_int, slice_scr, l_hash, l_nil, l_nl, cd, jd]
  rfl
def nilAns : PV := .tup [.tup [], .int 0]
/-- a head that is none -/
theorem words_bad {hd : List Nat} (hs : ∀ c ∈ hd, c ∈ SG) (hl : hd.length ≤ 1000) (hb : rowP 0 1 (hd ++ [35] ++ pad5 (sumBy 0 hd)) = none) (g : PHeap) : Fx.run C 40 1108 [sv (badB hd)] g = .ok nilAns g := by
  have sl := sum_lt 0 hd
  have p5 := pad5_len (show sumBy 0 hd < 100000 by omega)
  have n10 : 10 ∉ hd ++ [35] ++ pad5 (sumBy 0 hd) := by
    intro m
    rcases List.mem_append.mp m with m | m
    · rcases List.mem_append.mp m with m | m
      · exact SG_10 (hs 10 m)
      · simp at m
    · have := dig5 (show sumBy 0 hd < 100000 by omega) m
      omega
  have st : Stop 0 1 (badB hd) := by
    refine .inr ⟨(hd ++ [35] ++ pad5 (sumBy 0 hd)).length, by unfold badB; exact fnd_app [] n10, ?_⟩
    unfold badB
    rw [List.take_left]
    exact hb
  have o : okL (badB hd) = true := by
    unfold badB
    rw [okL_app, okL_app, okL_app, okL_SG hs, okL_pad]; rfl
  have := words_ans 36 (us := []) (t := badB hd) (fun w m => nomatch m) (by simp) st (by unfold badB; simp [leafs]; omega) o g
  exact this
theorem nil_eq (g : PHeap) : eqV g nilAns nilAns = some true := ans_eq g (us := []) (fun w m => nomatch m)
theorem cls_any : ∀ (us : List (List Nat)), (∀ w ∈ us, okL w = true) → PV.cl (.tup (us.map sv)) 59 = true := fun us h => cls_sv us 58 h
theorem h1 {hd : List Nat} (hs : ∀ c ∈ hd, c ∈ SG) (hl : hd.length ≤ 1000) (hb : rowP 0 1 (hd ++ [35] ++ pad5 (sumBy 0 hd)) = none) : evS C (Fx.run C 40) b1_1 [s0, s1, s2, s3, s4, s5, s6, s7, s8, s9, s10, s11, s12, s13, some (sv hd), some (sv (badB hd)), s16, s17] h =
    .next [s0, s1, s2, s3, s4, s5, s6, s7, s8, s9, s10, s11, s12, s13, some (sv hd), some (sv (badB hd)), s16, s17] h := by
  have wb := words_bad hs hl hb
  have ne := nil_eq
  unfold nilAns at wb ne
  unfold b1_1
  simp (disch := first | assumption | omega | (simp only [List.length_append, List.length_cons, List.length_nil, List.length_take, List.length_drop, List.length_replicate, List.length_map]; omega)) only [startP, List.map_cons, List.map_nil, List.length_cons, List.length_nil, List.replicate_succ, List.replicate_zero, List.cons_append, List.nil_append, Nat.add_zero, Nat.zero_add, Nat.reduceAdd, Nat.reduceSub, Nat.reduceLT, Nat.reduceLeDiff, List.getElem?_cons_succ, List.getElem?_cons_zero, List.set_cons_succ, List.set_cons_zero, bind_ok, bind_exc, calm_ok, lift_some,
      x_var, x_int, x_lit, x_bl, x_non, x_bin, x_neg, x_cmp, x_chain, x_bool, x_not, x_ite, x_call, x_bcall, x_isi, x_meth, x_tup, x_listT, x_listF, x_sub, x_slice, x_nil, x_cons, x_onone, x_osome, x_tnil, x_tcons, x_b1, x_and, x_or, x_seq, x_range1, x_range2, x_enum,
      s_nil, s_cons, s_expr, s_ret, s_retN, s_asg, s_par, s_aug, s_if, s_raise, s_try, s_pass, s_brk, s_cont, h_nil, h_cons, tru_bl, b_add, b_sub, b_addI, b_mulI, b_mod, b_fdiv, a_addI, a_subI, c_eq, c_ne, c_lt, c_le, c_gt, c_ge, c_in, c_nin, c_isN, c_isnotN, eq_int, bindN, bindTp, setA0, setA1, omap, Option.map_some, Option.map_none, add_sv, aug_sv, len_sv, sub_sv, cut_sv, find_sv, find3_sv, index_sv, in_sv, r_index, r_rjust, r_find, r_find3, r_join, if_true, bx, nx, nxc, tx, ny_next, ny_cont, ny_brk, ny_ret, ny_exc, len_app, len_lst, len_tup, tuple_lst, r_app, append_app, add_tup, add_lst, sub_tup, sub_lst, slice_tup, slice_lst, at_0, at_1, at_2, at_3, at_m1, rg1_ok, rg2_ok, Int.toNat_natCast, int_int, abs_int, min_int, max_int, slice_scr, wb, ne, Bool.not_true]
theorem rowP_arew {a n : Nat} {l w : List Nat} {o : Nat} (e : rowP a n l = some (w, o)) : arew w = true := by
  unfold rowP at e
  simp only at e
  split at e
  · cases e
  · split at e
    · cases e
    · rename_i ca
      split at e
      · cases e; simpa using ca
      · cases e
theorem rowsP_arew : ∀ (m a n at_ : Nat) (t : List Nat), ∀ r ∈ rowsP m a n at_ t, arew r.1 = true
  | 0, _, _, _, _, r, h => nomatch h
  | m + 1, a, n, at_, t, r, h => by
    rw [rowsP_succ] at h
    cases ef : fnd 10 t with
    | none => rw [ef] at h; exact nomatch h
    | some j =>
      rw [ef] at h
      simp only at h
      cases er : rowP a n (t.take j) with
      | none => rw [er] at h; exact nomatch h
      | some p =>
        rw [er] at h
        rcases List.mem_cons.mp h with h | h
        · rw [h]; exact rowP_arew (o := p.2) er
        · exact rowsP_arew m _ _ _ _ r h
theorem wordsP_cl (T : List Nat) : PV.cl (.tup [.tup ((wordsP T).1.map sv), .int ((wordsP T).2 : Nat)]) 60 = true := by
  show (PV.cl (.tup ((wordsP T).1.map sv)) 59 && (true && true)) = true
  rw [Bool.and_true, Bool.and_true]
  refine cls_sv _ 58 fun w m => ?_
  obtain ⟨r, hr, rfl⟩ := List.mem_map.mp m
  exact okL_SG (arew_iff.mp (rowsP_arew _ _ _ _ _ r hr)).2.2
/-- '1 ' and words that end with a blank: read or not -/
theorem h1' {w : List Nat} {r : List PV} (hw : ∀ c ∈ w, c ∈ SG) (hl : w.length ≤ 30) (he : w.drop (w.length - 1) = [32]) (h2 : 2 ≤ w.length) : evS C (Fx.run C 40) b1_1 [s0, s1, s2, some (.tup (sv w :: r)), s4, s5, s6, s7, s8, s9, s10, s11, s12, s13, some (sv (49 :: 32 :: w)), some (sv (badB (49 :: 32 :: w))), s16, s17] h =
    .next [s0, s1, s2, some (.tup (sv w :: r)), s4, s5, s6, s7, s8, s9, s10, s11, s12, s13, some (sv (49 :: 32 :: w)), some (sv (badB (49 :: 32 :: w))), s16, s17] h := by
  have ln := line24
  have l1 : L "1 " = [49, 32] := by decide
  have hs : ∀ c ∈ 49 :: 32 :: w, c ∈ SG := by
    intro c m
    rcases List.mem_cons.mp m with rfl | m
    · decide
    · rcases List.mem_cons.mp m with rfl | m
      · decide
      · exact hw c m
  have sl := sum_lt 0 (49 :: 32 :: w)
  have p5 := pad5_len (show sumBy 0 (49 :: 32 :: w) < 100000 by omega)
  have o : okL (badB (49 :: 32 :: w)) = true := by
    unfold badB
    rw [okL_app, okL_app, okL_app, okL_SG hs, okL_pad]; rfl
  have bl : (badB (49 :: 32 :: w)).length ≤ 90000 := by
    unfold badB
    rw [List.length_append, List.length_append, List.length_append, p5]
    simp only [List.length_cons, List.length_nil]; omega
  have wi : ∀ g, Fx.run C 40 1108 [sv (badB (49 :: 32 :: w))] g = .ok (.tup [.tup ((wordsP (badB (49 :: 32 :: w))).1.map sv), .int ((wordsP (badB (49 :: 32 :: w))).2 : Nat)]) g := fun g => words_in has 36 (badB (49 :: 32 :: w)) bl o rfl g
  have e1 : ∀ g, ∃ b, eqV g (.tup [.tup ((wordsP (badB (49 :: 32 :: w))).1.map sv), .int ((wordsP (badB (49 :: 32 :: w))).2 : Nat)]) (.tup [.tup [], .int 0]) = some b := fun g => ⟨_, eq_cl g _ _ (wordsP_cl _) rfl⟩
  obtain ⟨b, e1⟩ := e1 h
  have q1 : eqV h (sv (49 :: 32 :: w)) (sv (49 :: 32 :: w)) = some true := by rw [eq_sv h _ _ (okL_SG hs) (okL_SG hs)]; simp
  have q2 : eqV h (sv [32]) (sv [32]) = some true := by rw [eq_sv h _ _ (by decide) (by decide)]; simp
  have h2' : ¬ ((w.length : Nat) : Int) < 2 := by omega
  unfold b1_1
  cases b
  · simp (disch := first | assumption | omega | (simp only [List.length_append, List.length_cons, List.length_nil, List.length_take, List.length_drop, List.length_replicate, List.length_map]; omega)) only [startP, List.map_cons, List.map_nil, List.length_cons, List.length_nil, List.replicate_succ, List.replicate_zero, List.cons_append, List.nil_append, Nat.add_zero, Nat.zero_add, Nat.reduceAdd, Nat.reduceSub, Nat.reduceLT, Nat.reduceLeDiff, List.getElem?_cons_succ, List.getElem?_cons_zero, List.set_cons_succ, List.set_cons_zero, bind_ok, bind_exc, calm_ok, lift_some,
      x_var, x_int, x_lit, x_bl, x_non, x_bin, x_neg, x_cmp, x_chain, x_bool, x_not, x_ite, x_call, x_bcall, x_isi, x_meth, x_tup, x_listT, x_listF, x_sub, x_slice, x_nil, x_cons, x_onone, x_osome, x_tnil, x_tcons, x_b1, x_and, x_or, x_seq, x_range1, x_range2, x_enum,
      s_nil, s_cons, s_expr, s_ret, s_retN, s_asg, s_par, s_aug, s_if, s_raise, s_try, s_pass, s_brk, s_cont, h_nil, h_cons, tru_bl, b_add, b_sub, b_addI, b_mulI, b_mod, b_fdiv, a_addI, a_subI, c_eq, c_ne, c_lt, c_le, c_gt, c_ge, c_in, c_nin, c_isN, c_isnotN, eq_int, bindN, bindTp, setA0, setA1, omap, Option.map_some, Option.map_none, add_sv, aug_sv, len_sv, sub_sv, cut_sv, find_sv, find3_sv, index_sv, in_sv, r_index, r_rjust, r_find, r_find3, r_join, if_true, bx, nx, nxc, tx, ny_next, ny_cont, ny_brk, ny_ret, ny_exc, len_app, len_lst, len_tup, tuple_lst, r_app, append_app, add_tup, add_lst, sub_tup, sub_lst, slice_tup, slice_lst, at_0, at_1, at_2, at_3, at_m1, rg1_ok, rg2_ok, Int.toNat_natCast, int_int, abs_int, min_int, max_int, slice_scr, wi, e1, Bool.not_true, Bool.not_false, l1, l_sp, cut_m1, he, q1, q2, decide_eq_false h2']
  · simp (disch := first | assumption | omega | (simp only [List.length_append, List.length_cons, List.length_nil, List.length_take, List.length_drop, List.length_replicate, List.length_map]; omega)) only [startP, List.map_cons, List.map_nil, List.length_cons, List.length_nil, List.replicate_succ, List.replicate_zero, List.cons_append, List.nil_append, Nat.add_zero, Nat.zero_add, Nat.reduceAdd, Nat.reduceSub, Nat.reduceLT, Nat.reduceLeDiff, List.getElem?_cons_succ, List.getElem?_cons_zero, List.set_cons_succ, List.set_cons_zero, bind_ok, bind_exc, calm_ok, lift_some,
      x_var, x_int, x_lit, x_bl, x_non, x_bin, x_neg, x_cmp, x_chain, x_bool, x_not, x_ite, x_call, x_bcall, x_isi, x_meth, x_tup, x_listT, x_listF, x_sub, x_slice, x_nil, x_cons, x_onone, x_osome, x_tnil, x_tcons, x_b1, x_and, x_or, x_seq, x_range1, x_range2, x_enum,
      s_nil, s_cons, s_expr, s_ret, s_retN, s_asg, s_par, s_aug, s_if, s_raise, s_try, s_pass, s_brk, s_cont, h_nil, h_cons, tru_bl, b_add, b_sub, b_addI, b_mulI, b_mod, b_fdiv, a_addI, a_subI, c_eq, c_ne, c_lt, c_le, c_gt, c_ge, c_in, c_nin, c_isN, c_isnotN, eq_int, bindN, bindTp, setA0, setA1, omap, Option.map_some, Option.map_none, add_sv, aug_sv, len_sv, sub_sv, cut_sv, find_sv, find3_sv, index_sv, in_sv, r_index, r_rjust, r_find, r_find3, r_join, if_true, bx, nx, nxc, tx, ny_next, ny_cont, ny_brk, ny_ret, ny_exc, len_app, len_lst, len_tup, tuple_lst, r_app, append_app, add_tup, add_lst, sub_tup, sub_lst, slice_tup, slice_lst, at_0, at_1, at_2, at_3, at_m1, rg1_ok, rg2_ok, Int.toNat_natCast, int_int, abs_int, min_int, max_int, slice_scr, wi, e1, Bool.not_true, Bool.not_false, l1, l_sp, cut_m1, he, q1, q2, decide_eq_false h2']
/-- a head, looked at -/
def HeadOk (w hd : List Nat) : Prop := (∀ c ∈ hd, c ∈ SG) ∧ hd.length ≤ 1000 ∧ (rowP 0 1 (hd ++ [35] ++ pad5 (sumBy 0 hd)) = none ∨ (hd = 49 :: 32 :: w ∧ w.drop (w.length - 1) = [32] ∧ 2 ≤ w.length))
theorem row_first {hd : List Nat} {c : Nat} (h : hd[0]? = some c) (hc : c ≠ 49) (t : List Nat) : rowP 0 1 (hd ++ [35] ++ t) = none := by
  refine rowP_first (c := 0) (by decide) ?_
  rw [List.append_assoc, List.getElem?_append_left (List.getElem?_eq_some_iff.mp h).1, h]
  intro z
  exact hc (Option.some.inj z)
theorem row_last {hd : List Nat} (h : hd.drop (hd.length - 1) ≠ [32] ∨ hd = [49, 32, 32]) : rowP 0 1 (hd ++ [35] ++ pad5 (sumBy 0 hd)) = none := by
  have sl := sum_lt 0 hd
  have p5 := pad5_len (show sumBy 0 hd < 100000 by omega)
  have e1 : (hd ++ [35] ++ pad5 (sumBy 0 hd)).length - 6 = hd.length := by
    rw [List.length_append, List.length_append, p5]; simp
  have e2 : (hd ++ [35] ++ pad5 (sumBy 0 hd)).take hd.length = hd := by rw [List.append_assoc, List.take_left]
  unfold rowP
  simp only [e1, e2]
  split
  · rfl
  · rename_i c
    rcases h with h | h
    · exact absurd (Classical.byContradiction fun z => c (.inr (.inr (.inl z)))) h
    · have : arew ((hd.take (hd.length - 1)).drop (begB 1).length) = false := by rw [h, beg_1 (by decide)]; decide
      rw [if_pos this]
theorem SGc {a : Nat} {l : List Nat} (h : a ∈ SG) (hl : ∀ c ∈ l, c ∈ SG) : ∀ c ∈ a :: l, c ∈ SG := fun c m => by
  rcases List.mem_cons.mp m with rfl | m
  · exact h
  · exact hl c m
theorem SGa {l : List Nat} (hl : ∀ c ∈ l, c ∈ SG) : ∀ c ∈ l ++ [32], c ∈ SG := fun c m => by
  rcases List.mem_append.mp m with m | m
  · exact hl c m
  · rw [List.mem_singleton.mp m]; decide
def headsOf (w : List Nat) : List (List Nat) := [48 :: 49 :: 32 :: (w ++ [32]), 49 :: 32 :: w, 32 :: (w ++ [32]), [49, 32, 32], 50 :: 32 :: (w ++ [32]), 120 :: 32 :: (w ++ [32]), 45 :: 49 :: 32 :: (w ++ [32])]
theorem heads_ok {w : List Nat} (hw : ∀ c ∈ w, c ∈ SG) (h1 : 1 ≤ w.length) (hl : w.length ≤ 30) : ∀ hd ∈ headsOf w, HeadOk w hd := by
  intro hd m
  simp only [headsOf, List.mem_cons, List.not_mem_nil, or_false] at m
  rcases m with rfl | rfl | rfl | rfl | rfl | rfl | rfl
  · exact ⟨SGc (by decide) (SGc (by decide) (SGc (by decide) (SGa hw))), by simp; omega, .inl (row_first (c := 48) rfl (by decide) _)⟩
  · refine ⟨SGc (by decide) (SGc (by decide) hw), by simp; omega, ?_⟩
    by_cases c : w.drop (w.length - 1) = [32]
    · by_cases c2 : 2 ≤ w.length
      · exact .inr ⟨rfl, c, c2⟩
      · left
        have : w.length - 1 = 0 := by omega
        rw [this] at c
        have c : w = [32] := c
        rw [c]
        exact row_last (.inr rfl)
    · refine .inl (row_last (.inl ?_))
      have : (49 :: 32 :: w).drop ((49 :: 32 :: w).length - 1) = w.drop (w.length - 1) := by
        obtain ⟨n, hn⟩ : ∃ n, w.length = n + 1 := ⟨w.length - 1, by omega⟩
        simp only [List.length_cons, hn]
        rfl
      rw [this]
      exact c
  · exact ⟨SGc (by decide) (SGa hw), by simp; omega, .inl (row_first (c := 32) rfl (by decide) _)⟩
  · exact ⟨by decide, by decide, .inl (row_last (.inr rfl))⟩
  · exact ⟨SGc (by decide) (SGc (by decide) (SGa hw)), by simp; omega, .inl (row_first (c := 50) rfl (by decide) _)⟩
  · exact ⟨SGc (by decide) (SGc (by decide) (SGa hw)), by simp; omega, .inl (row_first (c := 120) rfl (by decide) _)⟩
  · exact ⟨SGc (by decide) (SGc (by decide) (SGc (by decide) (SGa hw))), by simp; omega, .inl (row_first (c := 45) rfl (by decide) _)⟩
theorem body1 {w hd : List Nat} {r : List PV} (hw : ∀ c ∈ w, c ∈ SG) (hl : w.length ≤ 30) (H : HeadOk w hd) : evSs C (Fx.run C 40) f_law_b1 [s0, s1, s2, some (.tup (sv w :: r)), s4, s5, s6, s7, s8, s9, s10, s11, s12, s13, some (sv hd), s15, s16, s17] h =
    .next [s0, s1, s2, some (.tup (sv w :: r)), s4, s5, s6, s7, s8, s9, s10, s11, s12, s13, some (sv hd), some (sv (badB hd)), s16, s17] h := by
  rw [b1_eq, next_cons (h0 H.1 H.2.1)]
  rcases H.2.2 with e | ⟨rfl, e1, e2⟩
  · rw [next_cons (h1 H.1 H.2.1 e), s_nil]
  · rw [next_cons (h1' hw hl e1 e2), s_nil]
theorem do8 (G : Good ws) : ∃ t14 t15 : Option PV, evS C (Fx.run C 40) b6_7 [s0, s1, s2, some (.tup (ws.map sv)), s4, s5, s6, s7, s8, s9, s10, s11, s12, s13, s14, s15, s16, s17] h =
    .next [s0, s1, s2, some (.tup (ws.map sv)), s4, s5, s6, s7, s8, s9, s10, s11, s12, s13, t14, t15, s16, s17] h := by
  have ln := line24
  cases ws with
  | nil => exact absurd G.one (by decide)
  | cons w r =>
    obtain ⟨a1, a2, a3⟩ := G.word w (List.mem_cons_self ..)
    have hw : ∀ c ∈ w, c ∈ SG := fun c q => TS_SG c (a3 c q)
    have l1 : L "01 " = [48, 49, 32] := by decide
    have l2 : L "1 " = [49, 32] := by decide
    have l4 : L "1  " = [49, 32, 32] := by decide
    have l5 : L "2 " = [50, 32] := by decide
    have l6 : L "x " = [120, 32] := by decide
    have l7 : L "-1 " = [45, 49, 32] := by decide
    have sq : ∀ xs : List PV, seqL h (.lst xs) = some (xs, none) := fun _ => rfl
    unfold b6_7
    simp (disch := first | assumption | omega | (simp only [List.length_append, List.length_cons, List.length_nil, List.length_take, List.length_drop, List.length_replicate, List.length_map]; omega)) only [startP, List.map_cons, List.map_nil, List.length_cons, List.length_nil, List.replicate_succ, List.replicate_zero, List.cons_append, List.nil_append, Nat.add_zero, Nat.zero_add, Nat.reduceAdd, Nat.reduceSub, Nat.reduceLT, Nat.reduceLeDiff, List.getElem?_cons_succ, List.getElem?_cons_zero, List.set_cons_succ, List.set_cons_zero, bind_ok, bind_exc, calm_ok, lift_some,
      x_var, x_int, x_lit, x_bl, x_non, x_bin, x_neg, x_cmp, x_chain, x_bool, x_not, x_ite, x_call, x_bcall, x_isi, x_meth, x_tup, x_listT, x_listF, x_sub, x_slice, x_nil, x_cons, x_onone, x_osome, x_tnil, x_tcons, x_b1, x_and, x_or, x_seq, x_range1, x_range2, x_enum,
      s_nil, s_cons, s_expr, s_ret, s_retN, s_asg, s_par, s_aug, s_if, s_raise, s_try, s_pass, s_brk, s_cont, h_nil, h_cons, tru_bl, b_add, b_sub, b_addI, b_mulI, b_mod, b_fdiv, a_addI, a_subI, c_eq, c_ne, c_lt, c_le, c_gt, c_ge, c_in, c_nin, c_isN, c_isnotN, eq_int, bindN, bindTp, setA0, setA1, omap, Option.map_some, Option.map_none, add_sv, aug_sv, len_sv, sub_sv, cut_sv, find_sv, find3_sv, index_sv, in_sv, r_index, r_rjust, r_find, r_find3, r_join, if_true, bx, nx, nxc, tx, ny_next, ny_cont, ny_brk, ny_ret, ny_exc, len_app, len_lst, len_tup, tuple_lst, r_app, append_app, add_tup, add_lst, sub_tup, sub_lst, slice_tup, slice_lst, at_0, at_1, at_2, at_3, at_m1, rg1_ok, rg2_ok, Int.toNat_natCast, int_int, abs_int, min_int, max_int, slice_scr, s_for, l1, l2, l_sp, l4, l5, l6, l7, sq]
    generalize hq : forL _ _ _ _ _ _ = q
    obtain ⟨σ', h', rfl, e2, t14, t15, e3⟩ := for_q hq (fun i σ g => g = h ∧ ∃ t14 t15, σ = [s0, s1, s2, some (.tup (sv w :: r.map sv)), s4, s5, s6, s7, s8, s9, s10, s11, s12, s13, t14, t15, s16, s17]) (fun _ _ _ _ => rfl) ⟨rfl, _, _, rfl⟩ (by
      rintro i x σ g hx ⟨rfl, t14, t15, rfl⟩
      have hx : ((headsOf w).map sv)[i]? = some x := hx
      rw [List.getElem?_map] at hx
      obtain ⟨hd, e1, rfl⟩ := Option.map_eq_some_iff.mp hx
      have B := body1 (s0 := s0) (s1 := s1) (s2 := s2) (s4 := s4) (s5 := s5) (s6 := s6) (s7 := s7) (s8 := s8) (s9 := s9) (s10 := s10) (s11 := s11) (s12 := s12) (s13 := s13) (s15 := t15) (s16 := s16) (s17 := s17) (h := g) (r := r.map sv) hw a2 (heads_ok hw a1 a2 hd (List.mem_of_getElem? e1))
      simp (disch := first | assumption | omega | (simp only [List.length_append, List.length_cons, List.length_nil, List.length_take, List.length_drop, List.length_replicate, List.length_map]; omega)) only [startP, List.map_cons, List.map_nil, List.length_cons, List.length_nil, List.replicate_succ, List.replicate_zero, List.cons_append, List.nil_append, Nat.add_zero, Nat.zero_add, Nat.reduceAdd, Nat.reduceSub, Nat.reduceLT, Nat.reduceLeDiff, List.getElem?_cons_succ, List.getElem?_cons_zero, List.set_cons_succ, List.set_cons_zero, bind_ok, bind_exc, calm_ok, lift_some,
      x_var, x_int, x_lit, x_bl, x_non, x_bin, x_neg, x_cmp, x_chain, x_bool, x_not, x_ite, x_call, x_bcall, x_isi, x_meth, x_tup, x_listT, x_listF, x_sub, x_slice, x_nil, x_cons, x_onone, x_osome, x_tnil, x_tcons, x_b1, x_and, x_or, x_seq, x_range1, x_range2, x_enum,
      s_nil, s_cons, s_expr, s_ret, s_retN, s_asg, s_par, s_aug, s_if, s_raise, s_try, s_pass, s_brk, s_cont, h_nil, h_cons, tru_bl, b_add, b_sub, b_addI, b_mulI, b_mod, b_fdiv, a_addI, a_subI, c_eq, c_ne, c_lt, c_le, c_gt, c_ge, c_in, c_nin, c_isN, c_isnotN, eq_int, bindN, bindTp, setA0, setA1, omap, Option.map_some, Option.map_none, add_sv, aug_sv, len_sv, sub_sv, cut_sv, find_sv, find3_sv, index_sv, in_sv, r_index, r_rjust, r_find, r_find3, r_join, if_true, bx, nx, nxc, tx, ny_next, ny_cont, ny_brk, ny_ret, ny_exc, len_app, len_lst, len_tup, tuple_lst, r_app, append_app, add_tup, add_lst, sub_tup, sub_lst, slice_tup, slice_lst, at_0, at_1, at_2, at_3, at_m1, rg1_ok, rg2_ok, Int.toNat_natCast, int_int, abs_int, min_int, max_int, slice_scr, B]
      exact ⟨trivial, _, _, rfl⟩)
    subst e2 e3
    exact ⟨_, _, rfl⟩
end
end K54
end
section
set_option Elab.async false
set_option linter.all false
set_option maxRecDepth 100000
set_option maxHeartbeats 1000000
/-! the law. -/
namespace K54
open PySem Fx Lv
open SX (S)
open L2 (atI)
section
variable {s0 s1 s2 s3 s4 s5 s6 s7 s8 s9 s10 s11 s12 s13 s14 s15 s16 s17 : Option PV} {h : PHeap}
theorem turn {ds : List Int} (D : Drawn ds) (ns : List Int) (i : Nat) (hi : i < 3) : ∃ t3 t4 t5 t6 t7 t8 t9 t10 t11 t12 t13 t14 t15 : Option PV,
    evSs C (Fx.run C 40) f_law_b6 [some (.scr ns), some (.lst (ds.map .int)), some (.int i), s3, s4, s5, s6, s7, s8, s9, s10, s11, s12, s13, s14, s15, s16, s17] h =
    .next [some (.scr ns), some (.lst (ds.map .int)), some (.int i), t3, t4, t5, t6, t7, t8, t9, t10, t11, t12, t13, t14, t15, s16, s17] h := by
  obtain ⟨ws, G, dt⟩ := drawn_texts 39 D i hi
  have f5 := G.five
  have lv := law_leaves 38 ws (fun w m => ⟨by have := (G.word w m).2.1; omega, fun c q => TS_SG c ((G.word w m).2.2 c q)⟩) (by omega) h
  have fl := flat_leafs ws 0 1 (fun w m => (G.word w m).2.1) (by omega)
  have W16 : (leafs 0 1 ws).flatten.length ≤ 16777216 := by omega
  have lo := leaves_of has 36 ws G.arew (by omega) W16 h
  have wi := words_ans 36 (us := ws) (t := []) G.arew (by omega) (stop_nil _ _) (by rw [List.append_nil]; omega) rfl h
  rw [List.append_nil] at wi
  rw [b6_eq, next_cons (do1 (dt _ _ _ _ _ _ _ _ _ _ _ _ _ _ _ ns h)), next_cons (do2 lv), next_cons (do3 W16), next_cons (do4 W16 (okL_leafs ws 0 1 fun w m => (arew_iff.mp (G.arew w m)).2.2) G.ok lo wi)]
  obtain ⟨t6, e5⟩ := do5 (s0 := some (.scr ns)) (s1 := some (.lst (ds.map .int))) (s2 := some (.int i)) (s6 := s6) (s7 := s7) (s8 := s8) (s9 := s9) (s10 := s10) (s11 := s11) (s12 := s12) (s13 := s13) (s14 := s14) (s15 := s15) (s16 := s16) (s17 := s17) (h := h) G
  rw [next_cons e5]
  obtain ⟨u6, u7, u8, u9, u10, u11, u12, u13, e6⟩ := do6 (s0 := some (.scr ns)) (s6 := t6) (s7 := s7) (s8 := s8) (s9 := s9) (s10 := s10) (s11 := s11) (s12 := s12) (s13 := s13) (s14 := s14) (s15 := s15) (s16 := s16) (s17 := s17) (h := h) D G i
  rw [next_cons e6]
  obtain ⟨v6, v7, v10, e7⟩ := do7 (s0 := some (.scr ns)) (s1 := some (.lst (ds.map .int))) (s2 := some (.int i)) (s5 := some (sv (leafs 0 1 ws).flatten)) (s6 := u6) (s7 := u7) (s8 := u8) (s9 := u9) (s10 := u10) (s11 := u11) (s12 := u12) (s13 := u13) (s14 := s14) (s15 := s15) (s16 := s16) (s17 := s17) (h := h) G
  rw [next_cons e7]
  obtain ⟨v14, v15, e8⟩ := do8 (s0 := some (.scr ns)) (s1 := some (.lst (ds.map .int))) (s2 := some (.int i)) (s4 := some (.lst ((leafs 0 1 ws).map sv))) (s5 := some (sv (leafs 0 1 ws).flatten)) (s6 := v6) (s7 := v7) (s8 := u8) (s9 := u9) (s10 := v10) (s11 := u11) (s12 := u12) (s13 := u13) (s14 := s14) (s15 := s15) (s16 := s16) (s17 := s17) (h := h) G
  rw [next_cons e8, s_nil]
  exact ⟨_, _, _, _, _, _, _, _, _, _, _, _, _, rfl⟩
/-- 'a', so often -/
def manyA (n : Nat) : List Nat := List.replicate n 97
theorem mul_a (n : Nat) (h1 : 2 ≤ n) (h2 : n ≤ 1000000) : binV .Mult h (sv [97]) (.int (n : Nat)) = some (sv (manyA n)) := by
  have ln := line24
  show mulV h (.str (S [97])) (.int (n : Nat)) = _
  have ew : (S [97]).cps.toList = [97] := rfl
  have e : (List.replicate n [97]).flatten = manyA n := by
    unfold manyA
    clear h1 h2
    induction n with
    | zero => rfl
    | succ n ih => rw [List.replicate_succ, List.flatten_cons, ih, List.replicate_succ]; rfl
  have el : (S [97]).length = 1 := rfl
  unfold mulV
  simp only [ew, Int.toNat_natCast, e, el]
  rw [if_pos (by omega)]
theorem many_SG (n : Nat) : ∀ c ∈ manyA n, c ∈ SG := fun c m => by
  rw [List.eq_of_mem_replicate m]; decide
theorem many_len (n : Nat) : (manyA n).length = n := List.length_replicate
theorem wrongs : ∀ v ∈ ([.non, sv (L "a"), .lst [sv (L "a")], .tup [sv (L "")], .tup [sv (L "A")], .tup [sv (L "a\n")], .tup [sv (L "#")], .tup [.non], .tup [sv (manyA 20001)]] : List PV),
    isV .tuple v = some false ∨ ∃ xs, v = .tup xs ∧ (∀ x ∈ xs, okW x) ∧ xs.length ≤ 16777216 ∧ (xs.all arewV) = false := by
  intro v m
  have one : ∀ l : List Nat, l.length ≤ 16777216 → arew l = false → isV .tuple (.tup [sv l]) = some false ∨ ∃ xs, (PV.tup [sv l]) = .tup xs ∧ (∀ x ∈ xs, okW x) ∧ xs.length ≤ 16777216 ∧ (xs.all arewV) = false := fun l hl ha => by
    refine .inr ⟨_, rfl, fun x q => ?_, by simp, ?_⟩
    · rw [List.mem_singleton.mp q]
      exact .inr ⟨l, hl, rfl⟩
    · show (arewV (sv l) && true) = false
      show (arew l && true) = false
      rw [ha]; rfl
  simp only [List.mem_cons, List.not_mem_nil, or_false] at m
  rcases m with rfl | rfl | rfl | rfl | rfl | rfl | rfl | rfl | rfl
  · exact .inl rfl
  · exact .inl rfl
  · exact .inl rfl
  · exact one _ (by decide) (by decide)
  · exact one _ (by decide) (by decide)
  · exact one _ (by decide) (by decide)
  · exact one _ (by decide) (by decide)
  · refine .inr ⟨_, rfl, fun x q => ?_, by decide, rfl⟩
    rw [List.mem_singleton.mp q]
    exact .inl rfl
  · refine one _ (by rw [many_len]; decide) ?_
    unfold arew
    rw [many_len, decide_eq_false (show ¬ 20001 ≤ 20000 by decide)]
    rw [Bool.and_false, Bool.false_and]
theorem e_b0 (v : PV) (hv : isV .tuple v = some false ∨ ∃ xs, v = .tup xs ∧ (∀ x ∈ xs, okW x) ∧ xs.length ≤ 16777216 ∧ (xs.all arewV) = false) :
    evSs C (Fx.run C 40) f_law_b0 [s0, s1, s2, s3, s4, s5, s6, s7, s8, s9, s10, s11, s12, s13, s14, s15, some v, s17] h = .next [s0, s1, s2, s3, s4, s5, s6, s7, s8, s9, s10, s11, s12, s13, s14, s15, some v, s17] h := by
  have w := fun h => word_0 37 v hv h
  have q : ∀ g, eqV g (sv (L "words")) (sv (L "words")) = some true := fun g => by rw [eq_sv g _ _ (by decide) (by decide)]; simp
  rw [b0_eq]
  unfold b0_0
  simp (disch := first | assumption | omega | (simp only [List.length_append, List.length_cons, List.length_nil, List.length_take, List.length_drop, List.length_replicate, List.length_map]; omega)) only [startP, List.map_cons, List.map_nil, List.length_cons, List.length_nil, List.replicate_succ, List.replicate_zero, List.cons_append, List.nil_append, Nat.add_zero, Nat.zero_add, Nat.reduceAdd, Nat.reduceSub, Nat.reduceLT, Nat.reduceLeDiff, List.getElem?_cons_succ, List.getElem?_cons_zero, List.set_cons_succ, List.set_cons_zero, bind_ok, bind_exc, calm_ok, lift_some,
      x_var, x_int, x_lit, x_bl, x_non, x_bin, x_neg, x_cmp, x_chain, x_bool, x_not, x_ite, x_call, x_bcall, x_isi, x_meth, x_tup, x_listT, x_listF, x_sub, x_slice, x_nil, x_cons, x_onone, x_osome, x_tnil, x_tcons, x_b1, x_and, x_or, x_seq, x_range1, x_range2, x_enum,
      s_nil, s_cons, s_expr, s_ret, s_retN, s_asg, s_par, s_aug, s_if, s_raise, s_try, s_pass, s_brk, s_cont, h_nil, h_cons, tru_bl, b_add, b_sub, b_addI, b_mulI, b_mod, b_fdiv, a_addI, a_subI, c_eq, c_ne, c_lt, c_le, c_gt, c_ge, c_in, c_nin, c_isN, c_isnotN, eq_int, bindN, bindTp, setA0, setA1, omap, Option.map_some, Option.map_none, add_sv, aug_sv, len_sv, sub_sv, cut_sv, find_sv, find3_sv, index_sv, in_sv, r_index, r_rjust, r_find, r_find3, r_join, if_true, bx, nx, nxc, tx, ny_next, ny_cont, ny_brk, ny_ret, ny_exc, len_app, len_lst, len_tup, tuple_lst, r_app, append_app, add_tup, add_lst, sub_tup, sub_lst, slice_tup, slice_lst, at_0, at_1, at_2, at_3, at_m1, rg1_ok, rg2_ok, Int.toNat_natCast, int_int, abs_int, min_int, max_int, slice_scr, w, q, Bool.not_true]
theorem e_w2 : ∃ t16 : Option PV, evS C (Fx.run C 40) w_2 [s0, s1, s2, s3, s4, s5, s6, s7, s8, s9, s10, s11, s12, s13, s14, s15, s16, s17] h = .next [s0, s1, s2, s3, s4, s5, s6, s7, s8, s9, s10, s11, s12, s13, s14, s15, t16, s17] h := by
  have la : L "a" = [97] := by decide
  have m1 : binV .Mult h (sv [97]) (.int 20001) = some (sv (manyA 20001)) := mul_a (h := h) 20001 (by decide) (by decide)
  have sq : ∀ xs : List PV, seqL h (.lst xs) = some (xs, none) := fun _ => rfl
  have wr := wrongs
  rw [la] at wr
  unfold w_2
  simp (disch := first | assumption | omega | (simp only [List.length_append, List.length_cons, List.length_nil, List.length_take, List.length_drop, List.length_replicate, List.length_map]; omega)) only [startP, List.map_cons, List.map_nil, List.length_cons, List.length_nil, List.replicate_succ, List.replicate_zero, List.cons_append, List.nil_append, Nat.add_zero, Nat.zero_add, Nat.reduceAdd, Nat.reduceSub, Nat.reduceLT, Nat.reduceLeDiff, List.getElem?_cons_succ, List.getElem?_cons_zero, List.set_cons_succ, List.set_cons_zero, bind_ok, bind_exc, calm_ok, lift_some,
      x_var, x_int, x_lit, x_bl, x_non, x_bin, x_neg, x_cmp, x_chain, x_bool, x_not, x_ite, x_call, x_bcall, x_isi, x_meth, x_tup, x_listT, x_listF, x_sub, x_slice, x_nil, x_cons, x_onone, x_osome, x_tnil, x_tcons, x_b1, x_and, x_or, x_seq, x_range1, x_range2, x_enum,
      s_nil, s_cons, s_expr, s_ret, s_retN, s_asg, s_par, s_aug, s_if, s_raise, s_try, s_pass, s_brk, s_cont, h_nil, h_cons, tru_bl, b_add, b_sub, b_addI, b_mulI, b_mod, b_fdiv, a_addI, a_subI, c_eq, c_ne, c_lt, c_le, c_gt, c_ge, c_in, c_nin, c_isN, c_isnotN, eq_int, bindN, bindTp, setA0, setA1, omap, Option.map_some, Option.map_none, add_sv, aug_sv, len_sv, sub_sv, cut_sv, find_sv, find3_sv, index_sv, in_sv, r_index, r_rjust, r_find, r_find3, r_join, if_true, bx, nx, nxc, tx, ny_next, ny_cont, ny_brk, ny_ret, ny_exc, len_app, len_lst, len_tup, tuple_lst, r_app, append_app, add_tup, add_lst, sub_tup, sub_lst, slice_tup, slice_lst, at_0, at_1, at_2, at_3, at_m1, rg1_ok, rg2_ok, Int.toNat_natCast, int_int, abs_int, min_int, max_int, slice_scr, s_for, la, m1, sq]
  generalize hq : forL _ _ _ _ _ _ = q
  obtain ⟨σ', h', rfl, e2, t16, e3⟩ := for_q hq (fun i σ g => g = h ∧ ∃ t16, σ = [s0, s1, s2, s3, s4, s5, s6, s7, s8, s9, s10, s11, s12, s13, s14, s15, t16, s17]) (fun _ _ _ _ => rfl) ⟨rfl, _, rfl⟩ (by
    rintro i x σ g hx ⟨rfl, t16, rfl⟩
    have B := e_b0 (s0 := s0) (s1 := s1) (s2 := s2) (s3 := s3) (s4 := s4) (s5 := s5) (s6 := s6) (s7 := s7) (s8 := s8) (s9 := s9) (s10 := s10) (s11 := s11) (s12 := s12) (s13 := s13) (s14 := s14) (s15 := s15) (s17 := s17) (h := g) x (wr x (List.mem_of_getElem? hx))
    clear hx
    simp (disch := first | assumption | omega | (simp only [List.length_append, List.length_cons, List.length_nil, List.length_take, List.length_drop, List.length_replicate, List.length_map]; omega)) only [startP, List.map_cons, List.map_nil, List.length_cons, List.length_nil, List.replicate_succ, List.replicate_zero, List.cons_append, List.nil_append, Nat.add_zero, Nat.zero_add, Nat.reduceAdd, Nat.reduceSub, Nat.reduceLT, Nat.reduceLeDiff, List.getElem?_cons_succ, List.getElem?_cons_zero, List.set_cons_succ, List.set_cons_zero, bind_ok, bind_exc, calm_ok, lift_some,
      x_var, x_int, x_lit, x_bl, x_non, x_bin, x_neg, x_cmp, x_chain, x_bool, x_not, x_ite, x_call, x_bcall, x_isi, x_meth, x_tup, x_listT, x_listF, x_sub, x_slice, x_nil, x_cons, x_onone, x_osome, x_tnil, x_tcons, x_b1, x_and, x_or, x_seq, x_range1, x_range2, x_enum,
      s_nil, s_cons, s_expr, s_ret, s_retN, s_asg, s_par, s_aug, s_if, s_raise, s_try, s_pass, s_brk, s_cont, h_nil, h_cons, tru_bl, b_add, b_sub, b_addI, b_mulI, b_mod, b_fdiv, a_addI, a_subI, c_eq, c_ne, c_lt, c_le, c_gt, c_ge, c_in, c_nin, c_isN, c_isnotN, eq_int, bindN, bindTp, setA0, setA1, omap, Option.map_some, Option.map_none, add_sv, aug_sv, len_sv, sub_sv, cut_sv, find_sv, find3_sv, index_sv, in_sv, r_index, r_rjust, r_find, r_find3, r_join, if_true, bx, nx, nxc, tx, ny_next, ny_cont, ny_brk, ny_ret, ny_exc, len_app, len_lst, len_tup, tuple_lst, r_app, append_app, add_tup, add_lst, sub_tup, sub_lst, slice_tup, slice_lst, at_0, at_1, at_2, at_3, at_m1, rg1_ok, rg2_ok, Int.toNat_natCast, int_int, abs_int, min_int, max_int, slice_scr, B]
    exact ⟨trivial, _, rfl⟩)
  subst e2 e3
  exact ⟨_, rfl⟩
theorem e_w3 : ∃ t16 : Option PV, evS C (Fx.run C 40) w_3 [s0, s1, s2, s3, s4, s5, s6, s7, s8, s9, s10, s11, s12, s13, s14, s15, s16, s17] h = .next [s0, s1, s2, s3, s4, s5, s6, s7, s8, s9, s10, s11, s12, s13, s14, s15, t16, s17] h := by
  have ln := line24
  have la : L "a" = [97] := by decide
  have sq : ∀ (h : PHeap) (xs : List PV), seqL h (.lst xs) = some (xs, none) := fun _ _ => rfl
  have ec : evE C (Fx.run C 40) (.comp (.call 9005 (.cons (.int 1) (.cons (.var 16) .nil))) (.name 16) (.seq (.list false (.cons .non (.cons (.int 5) (.cons (.tup (.cons (.str (PySem.Str.ofString "a")) .nil)) .nil))))) .nil [((PySem.Str.ofString "wrong"), 16)])
      [s0, s1, s2, s3, s4, s5, s6, s7, s8, s9, s10, s11, s12, s13, s14, s15, s16, s17] h = .ok (.lst ([PV.non, .int 5, .tup [sv [97]]].map fun _ => sv (L "text"))) h := by
    refine ev_comp (items := [.non, .int 5, .tup [sv [97]]]) (w := none) (fun _ => sv (L "text")) (by simp (disch := first | assumption | omega | (simp only [List.length_append, List.length_cons, List.length_nil, List.length_take, List.length_drop, List.length_replicate, List.length_map]; omega)) only [startP, List.map_cons, List.map_nil, List.length_cons, List.length_nil, List.replicate_succ, List.replicate_zero, List.cons_append, List.nil_append, Nat.add_zero, Nat.zero_add, Nat.reduceAdd, Nat.reduceSub, Nat.reduceLT, Nat.reduceLeDiff, List.getElem?_cons_succ, List.getElem?_cons_zero, List.set_cons_succ, List.set_cons_zero, bind_ok, bind_exc, calm_ok, lift_some,
      x_var, x_int, x_lit, x_bl, x_non, x_bin, x_neg, x_cmp, x_chain, x_bool, x_not, x_ite, x_call, x_bcall, x_isi, x_meth, x_tup, x_listT, x_listF, x_sub, x_slice, x_nil, x_cons, x_onone, x_osome, x_tnil, x_tcons, x_b1, x_and, x_or, x_seq, x_range1, x_range2, x_enum,
      s_nil, s_cons, s_expr, s_ret, s_retN, s_asg, s_par, s_aug, s_if, s_raise, s_try, s_pass, s_brk, s_cont, h_nil, h_cons, tru_bl, b_add, b_sub, b_addI, b_mulI, b_mod, b_fdiv, a_addI, a_subI, c_eq, c_ne, c_lt, c_le, c_gt, c_ge, c_in, c_nin, c_isN, c_isnotN, eq_int, bindN, bindTp, setA0, setA1, omap, Option.map_some, Option.map_none, add_sv, aug_sv, len_sv, sub_sv, cut_sv, find_sv, find3_sv, index_sv, in_sv, r_index, r_rjust, r_find, r_find3, r_join, if_true, bx, nx, nxc, tx, ny_next, ny_cont, ny_brk, ny_ret, ny_exc, len_app, len_lst, len_tup, tuple_lst, r_app, append_app, add_tup, add_lst, sub_tup, sub_lst, slice_tup, slice_lst, at_0, at_1, at_2, at_3, at_m1, rg1_ok, rg2_ok, Int.toNat_natCast, int_int, abs_int, min_int, max_int, slice_scr, sq, la]) (fun _ => rfl) (by
      intro x hx acc
      simp only [List.mem_cons, List.not_mem_nil, or_false] at hx
      rcases hx with rfl | rfl | rfl
      · refine ⟨_, rfl, ?_⟩
        have w := fun h => word_1 36 .non rfl h
        simp (disch := first | assumption | omega | (simp only [List.length_append, List.length_cons, List.length_nil, List.length_take, List.length_drop, List.length_replicate, List.length_map]; omega)) only [startP, List.map_cons, List.map_nil, List.length_cons, List.length_nil, List.replicate_succ, List.replicate_zero, List.cons_append, List.nil_append, Nat.add_zero, Nat.zero_add, Nat.reduceAdd, Nat.reduceSub, Nat.reduceLT, Nat.reduceLeDiff, List.getElem?_cons_succ, List.getElem?_cons_zero, List.set_cons_succ, List.set_cons_zero, bind_ok, bind_exc, calm_ok, lift_some,
      x_var, x_int, x_lit, x_bl, x_non, x_bin, x_neg, x_cmp, x_chain, x_bool, x_not, x_ite, x_call, x_bcall, x_isi, x_meth, x_tup, x_listT, x_listF, x_sub, x_slice, x_nil, x_cons, x_onone, x_osome, x_tnil, x_tcons, x_b1, x_and, x_or, x_seq, x_range1, x_range2, x_enum,
      s_nil, s_cons, s_expr, s_ret, s_retN, s_asg, s_par, s_aug, s_if, s_raise, s_try, s_pass, s_brk, s_cont, h_nil, h_cons, tru_bl, b_add, b_sub, b_addI, b_mulI, b_mod, b_fdiv, a_addI, a_subI, c_eq, c_ne, c_lt, c_le, c_gt, c_ge, c_in, c_nin, c_isN, c_isnotN, eq_int, bindN, bindTp, setA0, setA1, omap, Option.map_some, Option.map_none, add_sv, aug_sv, len_sv, sub_sv, cut_sv, find_sv, find3_sv, index_sv, in_sv, r_index, r_rjust, r_find, r_find3, r_join, if_true, bx, nx, nxc, tx, ny_next, ny_cont, ny_brk, ny_ret, ny_exc, len_app, len_lst, len_tup, tuple_lst, r_app, append_app, add_tup, add_lst, sub_tup, sub_lst, slice_tup, slice_lst, at_0, at_1, at_2, at_3, at_m1, rg1_ok, rg2_ok, Int.toNat_natCast, int_int, abs_int, min_int, max_int, slice_scr, wipeP, w]
      · refine ⟨_, rfl, ?_⟩
        have w := fun h => word_1 36 (.int 5) rfl h
        simp (disch := first | assumption | omega | (simp only [List.length_append, List.length_cons, List.length_nil, List.length_take, List.length_drop, List.length_replicate, List.length_map]; omega)) only [startP, List.map_cons, List.map_nil, List.length_cons, List.length_nil, List.replicate_succ, List.replicate_zero, List.cons_append, List.nil_append, Nat.add_zero, Nat.zero_add, Nat.reduceAdd, Nat.reduceSub, Nat.reduceLT, Nat.reduceLeDiff, List.getElem?_cons_succ, List.getElem?_cons_zero, List.set_cons_succ, List.set_cons_zero, bind_ok, bind_exc, calm_ok, lift_some,
      x_var, x_int, x_lit, x_bl, x_non, x_bin, x_neg, x_cmp, x_chain, x_bool, x_not, x_ite, x_call, x_bcall, x_isi, x_meth, x_tup, x_listT, x_listF, x_sub, x_slice, x_nil, x_cons, x_onone, x_osome, x_tnil, x_tcons, x_b1, x_and, x_or, x_seq, x_range1, x_range2, x_enum,
      s_nil, s_cons, s_expr, s_ret, s_retN, s_asg, s_par, s_aug, s_if, s_raise, s_try, s_pass, s_brk, s_cont, h_nil, h_cons, tru_bl, b_add, b_sub, b_addI, b_mulI, b_mod, b_fdiv, a_addI, a_subI, c_eq, c_ne, c_lt, c_le, c_gt, c_ge, c_in, c_nin, c_isN, c_isnotN, eq_int, bindN, bindTp, setA0, setA1, omap, Option.map_some, Option.map_none, add_sv, aug_sv, len_sv, sub_sv, cut_sv, find_sv, find3_sv, index_sv, in_sv, r_index, r_rjust, r_find, r_find3, r_join, if_true, bx, nx, nxc, tx, ny_next, ny_cont, ny_brk, ny_ret, ny_exc, len_app, len_lst, len_tup, tuple_lst, r_app, append_app, add_tup, add_lst, sub_tup, sub_lst, slice_tup, slice_lst, at_0, at_1, at_2, at_3, at_m1, rg1_ok, rg2_ok, Int.toNat_natCast, int_int, abs_int, min_int, max_int, slice_scr, wipeP, w]
      · refine ⟨_, rfl, ?_⟩
        have w := fun h => word_1 36 (.tup [sv [97]]) rfl h
        simp (disch := first | assumption | omega | (simp only [List.length_append, List.length_cons, List.length_nil, List.length_take, List.length_drop, List.length_replicate, List.length_map]; omega)) only [startP, List.map_cons, List.map_nil, List.length_cons, List.length_nil, List.replicate_succ, List.replicate_zero, List.cons_append, List.nil_append, Nat.add_zero, Nat.zero_add, Nat.reduceAdd, Nat.reduceSub, Nat.reduceLT, Nat.reduceLeDiff, List.getElem?_cons_succ, List.getElem?_cons_zero, List.set_cons_succ, List.set_cons_zero, bind_ok, bind_exc, calm_ok, lift_some,
      x_var, x_int, x_lit, x_bl, x_non, x_bin, x_neg, x_cmp, x_chain, x_bool, x_not, x_ite, x_call, x_bcall, x_isi, x_meth, x_tup, x_listT, x_listF, x_sub, x_slice, x_nil, x_cons, x_onone, x_osome, x_tnil, x_tcons, x_b1, x_and, x_or, x_seq, x_range1, x_range2, x_enum,
      s_nil, s_cons, s_expr, s_ret, s_retN, s_asg, s_par, s_aug, s_if, s_raise, s_try, s_pass, s_brk, s_cont, h_nil, h_cons, tru_bl, b_add, b_sub, b_addI, b_mulI, b_mod, b_fdiv, a_addI, a_subI, c_eq, c_ne, c_lt, c_le, c_gt, c_ge, c_in, c_nin, c_isN, c_isnotN, eq_int, bindN, bindTp, setA0, setA1, omap, Option.map_some, Option.map_none, add_sv, aug_sv, len_sv, sub_sv, cut_sv, find_sv, find3_sv, index_sv, in_sv, r_index, r_rjust, r_find, r_find3, r_join, if_true, bx, nx, nxc, tx, ny_next, ny_cont, ny_brk, ny_ret, ny_exc, len_app, len_lst, len_tup, tuple_lst, r_app, append_app, add_tup, add_lst, sub_tup, sub_lst, slice_tup, slice_lst, at_0, at_1, at_2, at_3, at_m1, rg1_ok, rg2_ok, Int.toNat_natCast, int_int, abs_int, min_int, max_int, slice_scr, wipeP, w]) (by rw [ln]; decide) (fun x _ => rfl)
  have em : binV .Mult h (.lst [sv (L "text")]) (.int 3) = some (.lst [sv (L "text"), sv (L "text"), sv (L "text")]) := by
    show mulV h (.lst [sv (L "text")]) (.int 3) = _
    unfold mulV
    simp only [asL]
    rw [if_pos (by rw [ln]; decide)]
    rfl
  have oT : okL (L "text") = true := by decide
  have q1 : eqV h (.lst [sv (L "text"), sv (L "text"), sv (L "text")]) (.lst [sv (L "text"), sv (L "text"), sv (L "text")]) = some true := by
    have cl : PV.cl (.lst [sv (L "text"), sv (L "text"), sv (L "text")]) 60 = true := by
      show (PV.cl (sv (L "text")) 59 && (PV.cl (sv (L "text")) 59 && (PV.cl (sv (L "text")) 59 && true))) = true
      rw [cl_sv _ oT]; rfl
    rw [eq_cl h _ _ cl cl]; simp
  have lo : Fx.run C 40 1104 [.tup []] h = .ok (sv []) h := leaves_of has 36 [] (fun w m => nomatch m) (by decide) (by decide) h
  have wi : Fx.run C 40 1108 [sv []] h = .ok (.tup [.tup [], .int 0]) h := words_ans 36 (us := []) (t := []) (fun w m => nomatch m) (by decide) (stop_nil _ _) (by decide) rfl h
  have q2 : eqV h (sv []) (sv []) = some true := by rw [eq_sv h _ _ rfl rfl]; simp
  have q3 := nil_eq h
  unfold nilAns at q3
  unfold w_3
  simp (disch := first | assumption | omega | (simp only [List.length_append, List.length_cons, List.length_nil, List.length_take, List.length_drop, List.length_replicate, List.length_map]; omega)) only [startP, List.map_cons, List.map_nil, List.length_cons, List.length_nil, List.replicate_succ, List.replicate_zero, List.cons_append, List.nil_append, Nat.add_zero, Nat.zero_add, Nat.reduceAdd, Nat.reduceSub, Nat.reduceLT, Nat.reduceLeDiff, List.getElem?_cons_succ, List.getElem?_cons_zero, List.set_cons_succ, List.set_cons_zero, bind_ok, bind_exc, calm_ok, lift_some,
      x_var, x_int, x_lit, x_bl, x_non, x_bin, x_neg, x_cmp, x_chain, x_bool, x_not, x_ite, x_call, x_bcall, x_isi, x_meth, x_tup, x_listT, x_listF, x_sub, x_slice, x_nil, x_cons, x_onone, x_osome, x_tnil, x_tcons, x_b1, x_and, x_or, x_seq, x_range1, x_range2, x_enum,
      s_nil, s_cons, s_expr, s_ret, s_retN, s_asg, s_par, s_aug, s_if, s_raise, s_try, s_pass, s_brk, s_cont, h_nil, h_cons, tru_bl, b_add, b_sub, b_addI, b_mulI, b_mod, b_fdiv, a_addI, a_subI, c_eq, c_ne, c_lt, c_le, c_gt, c_ge, c_in, c_nin, c_isN, c_isnotN, eq_int, bindN, bindTp, setA0, setA1, omap, Option.map_some, Option.map_none, add_sv, aug_sv, len_sv, sub_sv, cut_sv, find_sv, find3_sv, index_sv, in_sv, r_index, r_rjust, r_find, r_find3, r_join, if_true, bx, nx, nxc, tx, ny_next, ny_cont, ny_brk, ny_ret, ny_exc, len_app, len_lst, len_tup, tuple_lst, r_app, append_app, add_tup, add_lst, sub_tup, sub_lst, slice_tup, slice_lst, at_0, at_1, at_2, at_3, at_m1, rg1_ok, rg2_ok, Int.toNat_natCast, int_int, abs_int, min_int, max_int, slice_scr, ec, em, q1, lo, l_nil, q2, wi, q3, Bool.not_true]
  exact ⟨_, rfl⟩
theorem e_w4 : evS C (Fx.run C 40) w_4 [s0, s1, s2, s3, s4, s5, s6, s7, s8, s9, s10, s11, s12, s13, s14, s15, s16, s17] h = .ret (.bl true) h := by
  have ln := line24
  have la : L "a" = [97] := by decide
  have m1 : binV .Mult h (sv [97]) (.int 20000) = some (sv (manyA 20000)) := mul_a (h := h) 20000 (by decide) (by decide)
  have ar : ∀ w ∈ [manyA 20000], arew w = true := fun w m => by
    rw [List.mem_singleton.mp m]
    exact arew_iff.mpr ⟨by rw [many_len]; decide, by rw [many_len]; decide, many_SG _⟩
  have ll : (leafs 0 1 [manyA 20000]).flatten.length = 20010 := by
    show (leafBy 0 1 (manyA 20000) ++ []).length = _
    rw [List.append_nil, leaf_len _ _ _ (by decide), many_len]
  have lo := leaves_of has 36 [manyA 20000] ar (by decide) (by rw [ll]; decide) h
  have wi := words_ans 36 (us := [manyA 20000]) (t := []) ar (by decide) (stop_nil _ _) (by rw [List.append_nil, ll]; decide) rfl h
  rw [List.append_nil, ans_is, ll] at wi
  simp only [List.map_cons, List.map_nil] at lo wi
  have oA : okL (manyA 20000) = true := okL_SG (many_SG _)
  have q1 : eqV h (.tup [.tup [sv (manyA 20000)], .int ((20010 : Nat) : Int)]) (.tup [.tup [sv (manyA 20000)], .int 20010]) = some true := by
    have cl : PV.cl (.tup [.tup [sv (manyA 20000)], .int 20010]) 60 = true := by
      show (((PV.cl (sv (manyA 20000)) 58) && true) && (true && true)) = true
      rw [cl_sv _ oA]; rfl
    show eqV h (.tup [.tup [sv (manyA 20000)], .int 20010]) (.tup [.tup [sv (manyA 20000)], .int 20010]) = some true
    rw [eq_cl h _ _ cl cl]; simp
  have wh : Fx.run C 40 1108 [sv (L "hello\n")] h = .ok (.tup [.tup [], .int 0]) h := by
    refine words_ans 36 (us := []) (t := L "hello\n") (fun w m => nomatch m) (by decide) (stop_first (c := 0) (by decide) (by decide)) (by decide) (by decide) h
  have q3 := nil_eq h
  unfold nilAns at q3
  unfold w_4
  simp (disch := first | assumption | omega | (simp only [List.length_append, List.length_cons, List.length_nil, List.length_take, List.length_drop, List.length_replicate, List.length_map]; omega)) only [startP, List.map_cons, List.map_nil, List.length_cons, List.length_nil, List.replicate_succ, List.replicate_zero, List.cons_append, List.nil_append, Nat.add_zero, Nat.zero_add, Nat.reduceAdd, Nat.reduceSub, Nat.reduceLT, Nat.reduceLeDiff, List.getElem?_cons_succ, List.getElem?_cons_zero, List.set_cons_succ, List.set_cons_zero, bind_ok, bind_exc, calm_ok, lift_some,
      x_var, x_int, x_lit, x_bl, x_non, x_bin, x_neg, x_cmp, x_chain, x_bool, x_not, x_ite, x_call, x_bcall, x_isi, x_meth, x_tup, x_listT, x_listF, x_sub, x_slice, x_nil, x_cons, x_onone, x_osome, x_tnil, x_tcons, x_b1, x_and, x_or, x_seq, x_range1, x_range2, x_enum,
      s_nil, s_cons, s_expr, s_ret, s_retN, s_asg, s_par, s_aug, s_if, s_raise, s_try, s_pass, s_brk, s_cont, h_nil, h_cons, tru_bl, b_add, b_sub, b_addI, b_mulI, b_mod, b_fdiv, a_addI, a_subI, c_eq, c_ne, c_lt, c_le, c_gt, c_ge, c_in, c_nin, c_isN, c_isnotN, eq_int, bindN, bindTp, setA0, setA1, omap, Option.map_some, Option.map_none, add_sv, aug_sv, len_sv, sub_sv, cut_sv, find_sv, find3_sv, index_sv, in_sv, r_index, r_rjust, r_find, r_find3, r_join, if_true, bx, nx, nxc, tx, ny_next, ny_cont, ny_brk, ny_ret, ny_exc, len_app, len_lst, len_tup, tuple_lst, r_app, append_app, add_tup, add_lst, sub_tup, sub_lst, slice_tup, slice_lst, at_0, at_1, at_2, at_3, at_m1, rg1_ok, rg2_ok, Int.toNat_natCast, int_int, abs_int, min_int, max_int, slice_scr, la, m1, lo, wi, q1, wh, q3]
end
theorem law_true (ns : List Int) (hn : ns.length ≤ 63) : Fx.run C 41 9006 [.scr ns] [] = .ok (.bl true) [] := by
  obtain ⟨ds, D, ed⟩ := law_draws 39 ns hn []
  rw [run_succ (F := f_law) rfl 40 _ _ rfl, w_eq]
  have e0 : evS C (Fx.run C 40) w_0 (startP f_law.N [.scr ns]) [] = .next [some (.scr ns), some (.lst (ds.map .int)), none, none, none, none, none, none, none, none, none, none, none, none, none, none, none, none] [] := by
    unfold w_0 f_law
    simp (disch := first | assumption | omega | (simp only [List.length_append, List.length_cons, List.length_nil, List.length_take, List.length_drop, List.length_replicate, List.length_map]; omega)) only [startP, List.map_cons, List.map_nil, List.length_cons, List.length_nil, List.replicate_succ, List.replicate_zero, List.cons_append, List.nil_append, Nat.add_zero, Nat.zero_add, Nat.reduceAdd, Nat.reduceSub, Nat.reduceLT, Nat.reduceLeDiff, List.getElem?_cons_succ, List.getElem?_cons_zero, List.set_cons_succ, List.set_cons_zero, bind_ok, bind_exc, calm_ok, lift_some,
      x_var, x_int, x_lit, x_bl, x_non, x_bin, x_neg, x_cmp, x_chain, x_bool, x_not, x_ite, x_call, x_bcall, x_isi, x_meth, x_tup, x_listT, x_listF, x_sub, x_slice, x_nil, x_cons, x_onone, x_osome, x_tnil, x_tcons, x_b1, x_and, x_or, x_seq, x_range1, x_range2, x_enum,
      s_nil, s_cons, s_expr, s_ret, s_retN, s_asg, s_par, s_aug, s_if, s_raise, s_try, s_pass, s_brk, s_cont, h_nil, h_cons, tru_bl, b_add, b_sub, b_addI, b_mulI, b_mod, b_fdiv, a_addI, a_subI, c_eq, c_ne, c_lt, c_le, c_gt, c_ge, c_in, c_nin, c_isN, c_isnotN, eq_int, bindN, bindTp, setA0, setA1, omap, Option.map_some, Option.map_none, add_sv, aug_sv, len_sv, sub_sv, cut_sv, find_sv, find3_sv, index_sv, in_sv, r_index, r_rjust, r_find, r_find3, r_join, if_true, bx, nx, nxc, tx, ny_next, ny_cont, ny_brk, ny_ret, ny_exc, len_app, len_lst, len_tup, tuple_lst, r_app, append_app, add_tup, add_lst, sub_tup, sub_lst, slice_tup, slice_lst, at_0, at_1, at_2, at_3, at_m1, rg1_ok, rg2_ok, Int.toNat_natCast, int_int, abs_int, min_int, max_int, slice_scr, ed]
  rw [next_cons e0]
  have e1 : ∃ t2 t3 t4 t5 t6 t7 t8 t9 t10 t11 t12 t13 t14 t15 : Option PV, evS C (Fx.run C 40) w_1 [some (.scr ns), some (.lst (ds.map .int)), none, none, none, none, none, none, none, none, none, none, none, none, none, none, none, none] [] =
      .next [some (.scr ns), some (.lst (ds.map .int)), t2, t3, t4, t5, t6, t7, t8, t9, t10, t11, t12, t13, t14, t15, none, none] [] := by
    unfold w_1
    simp (disch := first | assumption | omega | (simp only [List.length_append, List.length_cons, List.length_nil, List.length_take, List.length_drop, List.length_replicate, List.length_map]; omega)) only [startP, List.map_cons, List.map_nil, List.length_cons, List.length_nil, List.replicate_succ, List.replicate_zero, List.cons_append, List.nil_append, Nat.add_zero, Nat.zero_add, Nat.reduceAdd, Nat.reduceSub, Nat.reduceLT, Nat.reduceLeDiff, List.getElem?_cons_succ, List.getElem?_cons_zero, List.set_cons_succ, List.set_cons_zero, bind_ok, bind_exc, calm_ok, lift_some,
      x_var, x_int, x_lit, x_bl, x_non, x_bin, x_neg, x_cmp, x_chain, x_bool, x_not, x_ite, x_call, x_bcall, x_isi, x_meth, x_tup, x_listT, x_listF, x_sub, x_slice, x_nil, x_cons, x_onone, x_osome, x_tnil, x_tcons, x_b1, x_and, x_or, x_seq, x_range1, x_range2, x_enum,
      s_nil, s_cons, s_expr, s_ret, s_retN, s_asg, s_par, s_aug, s_if, s_raise, s_try, s_pass, s_brk, s_cont, h_nil, h_cons, tru_bl, b_add, b_sub, b_addI, b_mulI, b_mod, b_fdiv, a_addI, a_subI, c_eq, c_ne, c_lt, c_le, c_gt, c_ge, c_in, c_nin, c_isN, c_isnotN, eq_int, bindN, bindTp, setA0, setA1, omap, Option.map_some, Option.map_none, add_sv, aug_sv, len_sv, sub_sv, cut_sv, find_sv, find3_sv, index_sv, in_sv, r_index, r_rjust, r_find, r_find3, r_join, if_true, bx, nx, nxc, tx, ny_next, ny_cont, ny_brk, ny_ret, ny_exc, len_app, len_lst, len_tup, tuple_lst, r_app, append_app, add_tup, add_lst, sub_tup, sub_lst, slice_tup, slice_lst, at_0, at_1, at_2, at_3, at_m1, rg1_ok, rg2_ok, Int.toNat_natCast, int_int, abs_int, min_int, max_int, slice_scr, s_for]
    generalize hq : forL _ _ _ _ _ _ = q
    obtain ⟨σ', h', rfl, e2, t2, t3, t4, t5, t6, t7, t8, t9, t10, t11, t12, t13, t14, t15, e3⟩ := for_q hq (fun i σ g => g = [] ∧ ∃ t2 t3 t4 t5 t6 t7 t8 t9 t10 t11 t12 t13 t14 t15, σ = [some (.scr ns), some (.lst (ds.map .int)), t2, t3, t4, t5, t6, t7, t8, t9, t10, t11, t12, t13, t14, t15, none, none]) (fun _ _ _ _ => rfl) ⟨rfl, _, _, _, _, _, _, _, _, _, _, _, _, _, _, rfl⟩ (by
      rintro i x σ g hx ⟨rfl, t2, t3, t4, t5, t6, t7, t8, t9, t10, t11, t12, t13, t14, t15, rfl⟩
      obtain ⟨rfl, hi⟩ := rangeL_at _ _ _ hx
      have hi : i < 3 := hi
      obtain ⟨u3, u4, u5, u6, u7, u8, u9, u10, u11, u12, u13, u14, u15, e⟩ := turn (s3 := t3) (s4 := t4) (s5 := t5) (s6 := t6) (s7 := t7) (s8 := t8) (s9 := t9) (s10 := t10) (s11 := t11) (s12 := t12) (s13 := t13) (s14 := t14) (s15 := t15) (s16 := none) (s17 := none) (h := []) D ns i hi
      simp (disch := first | assumption | omega | (simp only [List.length_append, List.length_cons, List.length_nil, List.length_take, List.length_drop, List.length_replicate, List.length_map]; omega)) only [startP, List.map_cons, List.map_nil, List.length_cons, List.length_nil, List.replicate_succ, List.replicate_zero, List.cons_append, List.nil_append, Nat.add_zero, Nat.zero_add, Nat.reduceAdd, Nat.reduceSub, Nat.reduceLT, Nat.reduceLeDiff, List.getElem?_cons_succ, List.getElem?_cons_zero, List.set_cons_succ, List.set_cons_zero, bind_ok, bind_exc, calm_ok, lift_some,
      x_var, x_int, x_lit, x_bl, x_non, x_bin, x_neg, x_cmp, x_chain, x_bool, x_not, x_ite, x_call, x_bcall, x_isi, x_meth, x_tup, x_listT, x_listF, x_sub, x_slice, x_nil, x_cons, x_onone, x_osome, x_tnil, x_tcons, x_b1, x_and, x_or, x_seq, x_range1, x_range2, x_enum,
      s_nil, s_cons, s_expr, s_ret, s_retN, s_asg, s_par, s_aug, s_if, s_raise, s_try, s_pass, s_brk, s_cont, h_nil, h_cons, tru_bl, b_add, b_sub, b_addI, b_mulI, b_mod, b_fdiv, a_addI, a_subI, c_eq, c_ne, c_lt, c_le, c_gt, c_ge, c_in, c_nin, c_isN, c_isnotN, eq_int, bindN, bindTp, setA0, setA1, omap, Option.map_some, Option.map_none, add_sv, aug_sv, len_sv, sub_sv, cut_sv, find_sv, find3_sv, index_sv, in_sv, r_index, r_rjust, r_find, r_find3, r_join, if_true, bx, nx, nxc, tx, ny_next, ny_cont, ny_brk, ny_ret, ny_exc, len_app, len_lst, len_tup, tuple_lst, r_app, append_app, add_tup, add_lst, sub_tup, sub_lst, slice_tup, slice_lst, at_0, at_1, at_2, at_3, at_m1, rg1_ok, rg2_ok, Int.toNat_natCast, int_int, abs_int, min_int, max_int, slice_scr, e]
      exact ⟨trivial, _, _, _, _, _, _, _, _, _, _, _, _, _, _, rfl⟩)
    subst e2 e3
    exact ⟨_, _, _, _, _, _, _, _, _, _, _, _, _, _, rfl⟩
  obtain ⟨t2, t3, t4, t5, t6, t7, t8, t9, t10, t11, t12, t13, t14, t15, e1⟩ := e1
  rw [next_cons e1]
  obtain ⟨t16, e2⟩ := e_w2 (s0 := some (.scr ns)) (s1 := some (.lst (ds.map .int))) (s2 := t2) (s3 := t3) (s4 := t4) (s5 := t5) (s6 := t6) (s7 := t7) (s8 := t8) (s9 := t9) (s10 := t10) (s11 := t11) (s12 := t12) (s13 := t13) (s14 := t14) (s15 := t15) (s16 := none) (s17 := none) (h := [])
  rw [next_cons e2]
  obtain ⟨u16, e3⟩ := e_w3 (s0 := some (.scr ns)) (s1 := some (.lst (ds.map .int))) (s2 := t2) (s3 := t3) (s4 := t4) (s5 := t5) (s6 := t6) (s7 := t7) (s8 := t8) (s9 := t9) (s10 := t10) (s11 := t11) (s12 := t12) (s13 := t13) (s14 := t14) (s15 := t15) (s16 := t16) (s17 := none) (h := [])
  rw [next_cons e3, s_cons, e_w4]
  exact exit_ret0 rfl
end K54
end
section
set_option Elab.async false
set_option linter.all false
set_option maxRecDepth 100000
set_option maxHeartbeats 0
open PySem PySem.Spec PyProof.Rows L2
namespace K54
abbrev R : PySem.W.OpenRow := PySem.W.OpenLaw.row PySem.Challenge.rw_resumetrue_k54_main_leaves_broken_off
abbrev hk : PySem.W.Hook := He.hookD 4 tab.fas tab.dds
def ob (s : PySem.W.SharedT) : He.AlD := He.obsDG 4 tab.fas tab.dds (HandSHeadRun.getT s)
theorem ob_eq (s : PySem.W.SharedT) : ob s = hk.obs s.abs := He.obsDG_eq (HandSHeadRun.getT_eq s)
theorem run (w : World) : HandSHeadRun.RunEq R (PySem.W.view R.prog [28]) hk ob 2000 loose w := by
  intro os
  kernel_rfl
end K54
end
section
set_option Elab.async false
set_option linter.all false
set_option maxRecDepth 100000
set_option maxHeartbeats 0
open PySem PySem.W PySem.Calls PyProof.Rows
theorem PySem.Challenge.cw_resumetrue_k54_main_leaves_broken_off_holds : PySem.Challenge.rw_resumetrue_k54_main_leaves_broken_off.Holds := by
  w_on; o_law
  refine HandSHeadRun.head_any (r := K54.R) (q := view K54.R.prog [28]) (H := K54.hk) (ob := K54.ob) (M := 2000) (loose := K54.loose) (d := HandSHeadRun.topDef K54.R.prog 28) (kwd := []) K54.ob_eq
    (by kernel_rfl) (fun s => by kernel_rfl) K54.run (by kernel_rfl) (by kernel_rfl) (by kernel_rfl) (by rfl) (by first | assumption | decide +kernel) (by decide +kernel) ⟨rfl, rfl, rfl, rfl, rfl, by decide +kernel⟩ ?hw ?hc
  case hw => w_witness2
  case hc => exact Fx.walk_fx (l := PySem.Challenge.rw_resumetrue_k54_main_leaves_broken_off) (n := 63) (k := 40) (T := K54.tab) (i := 9006) (D := ⟨9006, K54.f_law, K54.tops 28⟩) (x := "script") rfl (by decide) (by kernel_rfl) ⟨rfl, by decide, by decide⟩ rfl (by kernel_rfl) rfl K54.all_ok rfl K54.law_true
end
