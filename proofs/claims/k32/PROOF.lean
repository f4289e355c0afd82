import PyProof.Rows.All
import Wide.All
import OpenK.AllK
import Wide.FinOn
import HandS.ForMost
import HandS.TupAny
import HandS.Style
import HandS.Zip
import HandS.IsInst
import HandS.Defaults
import HandS.Exc
import HandS.SortInts
import HandS.TupMul
import HandS.Deep
import HandS.ExcOwn
import HandS.ExcValue
import HandS.CallSlots
import HandS.WordsExc
import HandS.Flow
import PySem.Challenge.RW_handsmade_k32_bunches_told
set_option Elab.async false
set_option linter.all false
set_option maxRecDepth 100000
/-! Z1: data, memory, code, and what code comes to (plain Lean; nothing of the machine). -/
namespace Z
open PySem

/-- a value as data: lists that never change are data, things that change stand in a memory -/
inductive D where
  | non | bl (b : Bool) | int (i : Int) | str (s : Str) | tup (l : List D) | lst (l : List D)
  | scr (l : List Int) | loc (n : Nat) | fn (n : Nat) | ty (s : String)
  deriving Inhabited

mutual
def D.same : D → D → Bool
  | .non, .non => true
  | .bl a, .bl b => a == b
  | .int a, .int b => a == b
  | .str a, .str b => a == b
  | .tup a, .tup b => D.sames a b
  | .lst a, .lst b => D.sames a b
  | .scr a, .scr b => a == b
  | .loc a, .loc b => a == b
  | .fn a, .fn b => a == b
  | .ty a, .ty b => a == b
  | _, _ => false
def D.sames : List D → List D → Bool
  | [], [] => true
  | x :: xs, y :: ys => D.same x y && D.sames xs ys
  | _, _ => false
end
mutual
theorem D.same_eq : ∀ {a b : D}, D.same a b = true → a = b
  | .non, b, h => by cases b <;> first | rfl | (simp [D.same] at h)
  | .bl a, b, h => by cases b <;> simp [D.same] at h; rw [h]
  | .int a, b, h => by cases b <;> simp [D.same] at h; rw [h]
  | .str a, b, h => by cases b <;> simp [D.same] at h; rw [h]
  | .tup a, b, h => by cases b <;> simp [D.same] at h; rw [D.sames_eq h]
  | .lst a, b, h => by cases b <;> simp [D.same] at h; rw [D.sames_eq h]
  | .scr a, b, h => by cases b <;> simp [D.same] at h; rw [h]
  | .loc a, b, h => by cases b <;> simp [D.same] at h; rw [h]
  | .fn a, b, h => by cases b <;> simp [D.same] at h; rw [h]
  | .ty a, b, h => by cases b <;> simp [D.same] at h; rw [h]
theorem D.sames_eq : ∀ {a b : List D}, D.sames a b = true → a = b
  | [], b, h => by cases b <;> first | rfl | (simp [D.sames] at h)
  | x :: xs, b, h => by
    cases b with
    | nil => simp [D.sames] at h
    | cons y ys =>
      simp only [D.sames, Bool.and_eq_true] at h
      rw [D.same_eq h.1, D.sames_eq h.2]
end
mutual
theorem D.same_refl : ∀ a : D, D.same a a = true
  | .non => rfl
  | .bl a => by simp [D.same]
  | .int a => by simp [D.same]
  | .str a => by simp [D.same]
  | .tup a => by simp only [D.same]; exact D.sames_refl a
  | .lst a => by simp only [D.same]; exact D.sames_refl a
  | .scr a => by simp [D.same]
  | .loc a => by simp [D.same]
  | .fn a => by simp [D.same]
  | .ty a => by simp [D.same]
theorem D.sames_refl : ∀ a : List D, D.sames a a = true
  | [] => rfl
  | x :: xs => by simp only [D.sames, D.same_refl x, D.sames_refl xs, Bool.and_self]
end

abbrev Key := L2.Key
/-- a thing that changes -/
inductive MO where
  | lst (l : List D) | dk (kvs : List (Key × D)) | ins (c : Nat) (fs : List (Str × D))
  deriving Inhabited
abbrev Mem := List MO
abbrev Env := List (Option D)
structure Ex where
  c : Nat
  fs : List D
inductive Out (α : Type) where
  | ok (a : α) (m : Mem) | exc (x : Ex) (m : Mem) | bad
variable {α β : Type}
def Out.bind (o : Out α) (f : α → Mem → Out β) : Out β := match o with
  | .ok a m => f a m
  | .exc x m => .exc x m
  | .bad => .bad
@[simp] theorem Out.bind_ok (a : α) (m : Mem) (f : α → Mem → Out β) : (Out.ok a m).bind f = f a m := rfl
@[simp] theorem Out.bind_exc (x : Ex) (m : Mem) (f : α → Mem → Out β) : (Out.exc x m : Out α).bind f = .exc x m := rfl
@[simp] theorem Out.bind_bad (f : α → Mem → Out β) : (Out.bad : Out α).bind f = .bad := rfl
/-- within a comprehension nothing may raise -/
def Out.calm (o : Out α) : Out α := match o with
  | .ok a m => .ok a m
  | _ => .bad
@[simp] theorem Out.calm_ok (a : α) (m : Mem) : (Out.ok a m).calm = .ok a m := rfl
@[simp] theorem Out.calm_bad : (Out.bad : Out α).calm = .bad := rfl
def lift (o : Option α) (m : Mem) : Out α := match o with
  | some a => .ok a m
  | none => .bad
@[simp] theorem lift_some (a : α) (m : Mem) : lift (some a) m = .ok a m := rfl
@[simp] theorem lift_none (m : Mem) : lift (none : Option α) m = .bad := rfl

/-! ### data read -/
def rdL (m : Mem) : D → Option (List D)
  | .lst l => some l
  | .loc n => match m[n]? with | some (.lst l) => some l | _ => none
  | _ => none
/-- what may be walked, cut, indexed: a list (true: a list's kind), a tuple (false) -/
def rdS (m : Mem) : D → Option (Bool × List D)
  | .lst l => some (true, l)
  | .scr l => some (true, l.map D.int)
  | .tup l => some (false, l)
  | .loc n => match m[n]? with | some (.lst l) => some (true, l) | _ => none
  | _ => none
mutual
def toPy : D → Option PyData
  | .non => some .none
  | .bl b => some (.bool b)
  | .int i => some (.int i)
  | .str s => some (.str s)
  | .tup l => match toPys l with | some xs => some (.tuple xs) | none => none
  | .lst l => match toPys l with | some xs => some (.list xs) | none => none
  | _ => none
def toPys : List D → Option (List PyData)
  | [] => some []
  | d :: l => match toPy d, toPys l with | some x, some xs => some (x :: xs) | _, _ => none
end
/-- a list at a place as the list it is -/
def top (m : Mem) (d : D) : D := match d with
  | .loc n => match m[n]? with | some (.lst l) => .lst l | _ => d
  | _ => d
def pyOf (m : Mem) (d : D) : Option PyData := toPy (top m d)
def eqP (m : Mem) (a b : D) : Option Bool := match pyOf m a, pyOf m b with
  | some x, some y => if SeqAt.shaped x && SeqAt.shaped y then some (PyData.eqv x y) else none
  | _, _ => none
def eqD (m : Mem) (a b : D) : Option Bool := match a, b with
  | .int x, .int y => some (decide (x = y))
  | .str x, .str y => some (decide (x = y))
  | _, _ => eqP m a b
def reprD (m : Mem) (a : D) : Option D := match pyOf m a with
  | some x => if x.canLay0 && x.showable && decide (x.depth ≤ 60) && decide (x.shown.length ≤ sizeLine) then some (.str x.shown) else none
  | none => none
def inD (m : Mem) (a b : D) : Option Bool := match b with
  | .str y => match a with
    | .str x => if x.length = 1 then some (decide (x.cps.getD 0 0 ∈ y.cps.toList)) else none
    | _ => none
  | _ => match pyOf m a, pyOf m b with
    | some x, some (.list ys) => if SeqAt.shaped x && SeqAt.shaped (.list ys) then some (ys.any fun z => PyData.eqv z x) else none
    | some x, some (.tuple ys) => if SeqAt.shaped x && SeqAt.shaped (.tuple ys) then some (ys.any fun z => PyData.eqv z x) else none
    | _, _ => none
def isNone : D → Bool
  | .non => true
  | _ => false
def cmpD (op : CmpOp) (m : Mem) (a b : D) : Option Bool := match op with
  | .Eq => eqD m a b
  | .NotEq => (eqD m a b).map (!·)
  | .Lt => match a, b with | .int i, .int j => some (decide (i < j)) | _, _ => none
  | .LtE => match a, b with | .int i, .int j => some (decide (i ≤ j)) | _, _ => none
  | .Gt => match a, b with | .int i, .int j => some (decide (j < i)) | _, _ => none
  | .GtE => match a, b with | .int i, .int j => some (decide (j ≤ i)) | _, _ => none
  | .Is => match b with | .non => some (isNone a) | _ => none
  | .IsNot => match b with | .non => some (!isNone a) | _ => none
  | .In => inD m a b
  | .NotIn => (inD m a b).map (!·)

def smallMul (i j : Int) : Bool := (decide (-(2 ^ 64) < i) && decide (i < 2 ^ 64)) || (decide (-(2 ^ 64) < j) && decide (j < 2 ^ 64))
def binD (op : Operator) (m : Mem) (a b : D) : Option D := match op with
  | .Add => match a, b with
    | .int i, .int j => some (.int (i + j))
    | .str x, .str y => if x.length + y.length ≤ sizeLine then some (.str (x ++ y)) else none
    | .tup x, .tup y => if x.length + y.length ≤ sizeLine then some (.tup (x ++ y)) else none
    | _, _ => match rdL m a, rdL m b with
      | some x, some y => if x.length + y.length ≤ sizeLine then some (.lst (x ++ y)) else none
      | _, _ => none
  | .Sub => match a, b with | .int i, .int j => some (.int (i - j)) | _, _ => none
  | .Mult => match a, b with
    | .int i, .int j => if smallMul i j then some (.int (i * j)) else none
    | .tup l, .int k => if decide (2 ≤ k) && decide (k ≤ 1000) && decide (l.length ≤ 1000) && !l.isEmpty then some (.tup (List.replicate k.toNat l).flatten) else none
    | _, .int k => match rdL m a with
      | some l => if decide (-(2 ^ 63) ≤ k) && decide (k < 2 ^ 63) && decide (l.length * k.toNat ≤ sizeLine) then some (.lst (List.replicate k.toNat l).flatten) else none
      | none => none
    | _, _ => none
  | .Mod => match a, b with | .int i, .int j => if 0 < j then some (.int (i % j)) else none | _, _ => none
  | .FloorDiv => match a, b with | .int i, .int j => if 0 < j ∧ j < 1073741824 then some (.int (i / j)) else none | _, _ => none
  | .Pow => match a, b with | .int i, .int j => if 0 ≤ j ∧ j ≤ 1000000 ∧ i.natAbs < 2 ^ 64 then some (.int (i ^ j.toNat)) else none | _, _ => none
  | _ => none
/-- a op= b: on flat things alone (a list would be changed where it stands) -/
def augD (op : Operator) (a b : D) : Option D := match op, a, b with
  | .Add, .int i, .int j => some (.int (i + j))
  | .Add, .str x, .str y => if x.length + y.length ≤ sizeLine then some (.str (x ++ y)) else none
  | .Sub, .int i, .int j => some (.int (i - j))
  | .Mult, .int i, .int j => if smallMul i j then some (.int (i * j)) else none
  | _, _, _ => none
def negD : D → Option D
  | .int i => some (.int (-i))
  | _ => none
/-- a part of a slice: none, or an int -/
def cutD (m : Mem) (a : D) (lo hi : Option Int) : Option D := match rdS m a with
  | some (true, l) => some (.lst ((l.drop (HT.sIx l.length 0 lo)).take (HT.sIx l.length l.length hi - HT.sIx l.length 0 lo)))
  | some (false, l) => some (.tup ((l.drop (HT.sIx l.length 0 lo)).take (HT.sIx l.length l.length hi - HT.sIx l.length 0 lo)))
  | none => none
def revD (m : Mem) (a : D) : Option D := match rdS m a with
  | some (true, l) => some (.lst l.reverse)
  | some (false, l) => some (.tup l.reverse)
  | none => none
def getK (kvs : List (Key × D)) (k : Key) : Option D := (kvs.find? fun kv => decide (kv.1 = k)).map (·.2)
def setK (kvs : List (Key × D)) (k : Key) (v : D) : List (Key × D) :=
  if (kvs.any fun kv => decide (kv.1 = k)) = true then kvs.map fun kv => if kv.1 = k then (kv.1, v) else kv
  else kvs ++ [(k, v)]
def subD (m : Mem) (a i : D) : Option D := match i with
  | .int k => match rdS m a with
    | some (_, l) => L2.atI l k
    | none => none
  | .str x => match a with
    | .loc n => match m[n]? with
      | some (.dk kvs) => getK kvs (.inr x)
      | _ => none
    | _ => none
  | _ => none

/-! ### built-in functions -/
inductive Bi where
  | isinst | all | any | sum | len | list | tuple | sorted | repr | str | int
  deriving DecidableEq, Inhabited
def tyName (m : Mem) : D → Option String
  | .non => some "NoneType"
  | .bl _ => some "bool"
  | .int _ => some "int"
  | .str _ => some "str"
  | .tup _ => some "tuple"
  | .lst _ => some "list"
  | .loc n => match m[n]? with
    | some (.lst _) => some "list"
    | some (.dk _) => some "dict"
    | _ => none
  | _ => none
def isKind (t : String) : Bool := ["int", "bool", "str", "tuple", "list"].contains t
def isinstD (m : Mem) (d : D) (t : String) : Option Bool := match tyName m d with
  | some u => if isKind t then some (u == t || (u == "bool" && t == "int")) else none
  | none => none
def asBools : List D → Option (List Bool)
  | [] => some []
  | .bl b :: l => (asBools l).map (b :: ·)
  | _ => none
def asInts : List D → Option (List Int)
  | [] => some []
  | .int i :: l => (asInts l).map (i :: ·)
  | _ => none
def biD (b : Bi) (m : Mem) (l : List D) : Option D := match b, l with
  | .isinst, [x, .ty t] => (isinstD m x t).map D.bl
  | .all, [x] => match rdL m x with | some l => (asBools l).map fun bs => .bl (bs.all id) | none => none
  | .any, [x] => match rdL m x with | some l => (asBools l).map fun bs => .bl (bs.any id) | none => none
  | .sum, [x] => match rdL m x with | some l => (asInts l).map fun ns => .int ns.sum | none => none
  | .len, [x] => match rdS m x with
    | some (_, l) => some (.int l.length)
    | none => match x with | .str s => if s.length ≤ sizeLine then some (.int s.length) else none | _ => none
  | .list, [x] => match rdS m x with | some (_, l) => some (.lst l) | none => none
  | .tuple, [x] => match rdS m x with | some (_, l) => some (.tup l) | none => none
  | .sorted, [x] => match rdS m x with | some (_, l) => (asInts l).map fun ns => .lst ((ns.mergeSort (fun a b => decide (a ≤ b))).map D.int) | none => none
  | .repr, [x] => reprD m x
  | .str, [.int i] => if i.natAbs.log2 < 1920 then some (.str (toString i)) else none
  | .int, [.int i] => some (.int i)
  | .int, [.bl b] => some (.int (if b then 1 else 0))
  | _, _ => none

/-! ### targets -/
inductive T where
  | nm (i : Nat) | tp (is : List Nat)
  deriving Inhabited
def setAll : List Nat → List D → Env → Option Env
  | [], [], e => some e
  | i :: is, d :: ds, e => setAll is ds (e.set i (some d))
  | _, _, _ => none
/-- a name, or a tuple of names of a tuple -/
def T.bind (t : T) (d : D) (e : Env) : Option Env := match t with
  | .nm i => some (e.set i (some d))
  | .tp is => match d with
    | .tup l => setAll is l e
    | _ => none
def wipe (e : Env) : List Nat → Env
  | [] => e
  | v :: vs => (wipe e vs).set v none

/-! ### code -/
mutual
inductive C where
  | var (i : Nat) | con (d : D)
  | tup (l : Cs) | lst (l : Cs) | new (c : C) | dict (ks : List Str) (vs : Cs)
  | bin (op : Operator) (a b : C) | neg (a : C)
  | cmp (op : CmpOp) (a b : C) | chn (o1 o2 : CmpOp) (a b c : C)
  | and (a b : C) | or (a b : C) | not (a : C) | ite (t a b : C)
  | sub (a i : C) | cut (a : C) (lo hi : Co) | rev (a : C)
  | call (f : Nat) (l : Cs) | callk (f np : Nat) (l : Cs) (ix : List Nat) (kw : Cs) (df : List (Nat × D)) | calv (i : Nat) (l : Cs)
  | bi (b : Bi) (l : Cs)
  | rng (a : C) | zip (a b : C)
  | comp (own : List Nat) (elt : C) (t : T) (it : C) (ifs : Cs)
inductive Cs where
  | nil | cons (c : C) (l : Cs)
inductive Co where
  | none | some (c : C)
end
instance : Inhabited C := ⟨.con .non⟩
abbrev Sg := Nat → List D → Mem → Out D

def sameL (m : Mem) (n : Nat) (l : List D) : Bool := match m[n]? with
  | some (.lst l') => D.sames l' l
  | _ => false
/-- the source of a walk: its items, and the place that must stay as it is -/
structure Src where
  items : List D
  at_ : Option Nat
def Src.stays (s : Src) (m : Mem) : Bool := match s.at_ with
  | none => true
  | some n => sameL m n s.items
def srcOf (m : Mem) (d : D) : Option Src := match d with
  | .loc n => match m[n]? with | some (.lst l) => some ⟨l, some n⟩ | _ => none
  | .str s => if s.length ≤ sizeLine then some ⟨s.cps.toList.map fun c => .str ⟨#[c]⟩, none⟩ else none
  | _ => match rdS m d with | some (_, l) => some ⟨l, none⟩ | none => none
def zipS (m : Mem) (a b : D) : Option Src := match a, b with
  | .tup x, .tup y => some ⟨(x.zip y).map fun p => .tup [p.1, p.2], none⟩
  | .lst x, .lst y => some ⟨(x.zip y).map fun p => .tup [p.1, p.2], none⟩
  | _, _ => none
def compGo (stays : Mem → Bool) (f : Env → Mem → Out D) (p : Env → Mem → Out Bool) (t : T) : List D → Env → Mem → Out (List D)
  | [], _, m => if stays m then .ok [] m else .bad
  | d :: ds, e, m => if stays m then match t.bind d e with
    | none => .bad
    | some e' => (p e' m).bind fun b m => if b then (f e' m).bind fun x m => (compGo stays f p t ds e m).bind fun xs m => .ok (x :: xs) m
      else compGo stays f p t ds e m
    else .bad
def asBl (d : D) (m : Mem) : Out Bool := match d with
  | .bl b => .ok b m
  | _ => .bad
/-- the arguments in the parameters' order: us by place, ws by name (ix: their places), df those left out -/
def placed {α : Type} (np : Nat) (us : List α) (ix : List Nat) (ws : List α) (df : List (Nat × α)) (z : α) : List α :=
  (List.range np).map fun i => match us[i]? with
    | some u => u
    | none => match (ix.zip ws).lookup i with
      | some w => w
      | none => (df.lookup i).getD z
mutual
def evalC (G : Sg) : C → Env → Mem → Out D
  | .var i, e, m => lift (e.getD i none) m
  | .con d, _, m => .ok d m
  | .tup l, e, m => (evalCs G l e m).bind fun l m => .ok (.tup l) m
  | .lst l, e, m => (evalCs G l e m).bind fun l m => .ok (.lst l) m
  | .new c, e, m => (evalC G c e m).bind fun d m => match d with
    | .lst l => .ok (.loc m.length) (m ++ [.lst l])
    | _ => .bad
  | .dict ks vs, e, m => (evalCs G vs e m).bind fun l m => .ok (.loc m.length) (m ++ [.dk ((ks.map Sum.inr).zip l)])
  | .bin op a b, e, m => (evalC G a e m).bind fun x m => (evalC G b e m).bind fun y m => lift (binD op m x y) m
  | .neg a, e, m => (evalC G a e m).bind fun x m => lift (negD x) m
  | .cmp op a b, e, m => (evalC G a e m).bind fun x m => (evalC G b e m).bind fun y m => lift ((cmpD op m x y).map D.bl) m
  | .chn o1 o2 a b c, e, m => (evalC G a e m).bind fun x m => (evalC G b e m).bind fun y m => (lift (cmpD o1 m x y) m).bind fun k m =>
      if k then (evalC G c e m).bind fun z m => lift ((cmpD o2 m y z).map D.bl) m else .ok (.bl false) m
  | .and a b, e, m => (evalC G a e m).bind fun x m => (asBl x m).bind fun k m => if k then evalC G b e m else .ok (.bl false) m
  | .or a b, e, m => (evalC G a e m).bind fun x m => (asBl x m).bind fun k m => if k then .ok (.bl true) m else evalC G b e m
  | .not a, e, m => (evalC G a e m).bind fun x m => (asBl x m).bind fun k m => .ok (.bl (!k)) m
  | .ite t a b, e, m => (evalC G t e m).bind fun x m => (asBl x m).bind fun k m => if k then evalC G a e m else evalC G b e m
  | .sub a i, e, m => (evalC G a e m).bind fun x m => (evalC G i e m).bind fun y m => lift (subD m x y) m
  | .cut a lo hi, e, m => (evalC G a e m).bind fun x m => (evalCo G lo e m).bind fun l m => (evalCo G hi e m).bind fun h m => lift (cutD m x l h) m
  | .rev a, e, m => (evalC G a e m).bind fun x m => lift (revD m x) m
  | .call f l, e, m => (evalCs G l e m).bind fun l m => G f l m
  | .callk f np l ix kw df, e, m => (evalCs G l e m).bind fun l m => (evalCs G kw e m).bind fun k m => G f (placed np l ix k df .non) m
  | .calv i l, e, m => (evalCs G l e m).bind fun l m => match e.getD i none with
    | some (.fn n) => G n l m
    | _ => .bad
  | .bi b l, e, m => (evalCs G l e m).bind fun l m => lift (biD b m l) m
  | .rng _, _, _ => .bad
  | .zip _ _, _, _ => .bad
  | .comp own elt t it ifs, e, m => ((evalIt G it e m).bind fun s m =>
      (compGo s.stays (fun e m => evalC G elt e m) (fun e m => evalIfs G ifs e m) t s.items (wipe e own) m).calm).bind fun l m => .ok (.lst l) m
def evalCs (G : Sg) : Cs → Env → Mem → Out (List D)
  | .nil, _, m => .ok [] m
  | .cons c l, e, m => (evalC G c e m).bind fun d m => (evalCs G l e m).bind fun ds m => .ok (d :: ds) m
def evalIfs (G : Sg) : Cs → Env → Mem → Out Bool
  | .nil, _, m => .ok true m
  | .cons c l, e, m => (evalC G c e m).bind fun d m => (asBl d m).bind fun k m => if k then evalIfs G l e m else .ok false m
def evalCo (G : Sg) : Co → Env → Mem → Out (Option Int)
  | .none, _, m => .ok none m
  | .some c, e, m => (evalC G c e m).bind fun d m => match d with
    | .int i => .ok (some i) m
    | _ => .bad
def evalIt (G : Sg) : C → Env → Mem → Out Src
  | .rng a, e, m => (evalC G a e m).bind fun d m => match d with
    | .int n => if -(2 ^ 62) ≤ n ∧ n ≤ sizeLine then .ok ⟨(List.range n.toNat).map fun (k : Nat) => D.int (k : Int), none⟩ m else .bad
    | _ => .bad
  | .zip a b, e, m => (evalC G a e m).bind fun x m => (evalC G b e m).bind fun y m => lift (zipS m x y) m
  | c, e, m => (evalC G c e m).bind fun d m => lift (srcOf m d) m
end

/-! ### statements -/
inductive Fl where
  | nx (e : Env) (m : Mem) | rt (d : D) (m : Mem) | bk (e : Env) (m : Mem) | ct (e : Env) (m : Mem) | exc (x : Ex) (e : Env) (m : Mem) | bad
def Fl.andThen (f : Fl) (k : Env → Mem → Fl) : Fl := match f with
  | .nx e m => k e m
  | f => f
@[simp] theorem Fl.andThen_nx (e : Env) (m : Mem) (k : Env → Mem → Fl) : (Fl.nx e m).andThen k = k e m := rfl
@[simp] theorem Fl.andThen_rt (d : D) (m : Mem) (k : Env → Mem → Fl) : (Fl.rt d m).andThen k = .rt d m := rfl
@[simp] theorem Fl.andThen_bk (e : Env) (m : Mem) (k : Env → Mem → Fl) : (Fl.bk e m).andThen k = .bk e m := rfl
@[simp] theorem Fl.andThen_ct (e : Env) (m : Mem) (k : Env → Mem → Fl) : (Fl.ct e m).andThen k = .ct e m := rfl
@[simp] theorem Fl.andThen_exc (x : Ex) (e : Env) (m : Mem) (k : Env → Mem → Fl) : (Fl.exc x e m).andThen k = .exc x e m := rfl
@[simp] theorem Fl.andThen_bad (k : Env → Mem → Fl) : Fl.bad.andThen k = .bad := rfl
def Out.fl (o : Out α) (e : Env) (k : α → Mem → Fl) : Fl := match o with
  | .ok a m => k a m
  | .exc x m => .exc x e m
  | .bad => .bad
@[simp] theorem Out.fl_ok (a : α) (m : Mem) (e : Env) (k : α → Mem → Fl) : (Out.ok a m).fl e k = k a m := rfl
@[simp] theorem Out.fl_exc (x : Ex) (m : Mem) (e : Env) (k : α → Mem → Fl) : (Out.exc x m : Out α).fl e k = .exc x e m := rfl
@[simp] theorem Out.fl_bad (e : Env) (k : α → Mem → Fl) : (Out.bad : Out α).fl e k = .bad := rfl
mutual
inductive S where
  | drop (c : C) | set (i : Nat) (c : C) | unp (t : T) (c : C) | par (is : List Nat) (cs : Cs) | aug (op : Operator) (i : Nat) (c : C)
  | put (o k v : C) | app (i : Nat) (c : C)
  | ret (c : C) | retN | ite (t : C) (a b : Ss) | for_ (t : T) (it : C) (b : Ss) | while_ (t : C) (b : Ss) | brk | cont | pass
inductive Ss where
  | nil | cons (s : S) (l : Ss)
end
def forGo (stays : Mem → Bool) (b : Env → Mem → Fl) (t : T) : List D → Env → Mem → Fl
  | [], e, m => if stays m then .nx e m else .bad
  | d :: ds, e, m => if stays m then match t.bind d e with
    | none => .bad
    | some e' => match b e' m with
      | .nx e m => forGo stays b t ds e m
      | .ct e m => forGo stays b t ds e m
      | .bk e m => .nx e m
      | f => f
    else .bad
def whileN (c : Env → Mem → Out Bool) (b : Env → Mem → Fl) : Nat → Env → Mem → Option Fl
  | 0, _, _ => none
  | n + 1, e, m => match c e m with
    | .ok false m => some (.nx e m)
    | .ok true m => match b e m with
      | .nx e m => whileN c b n e m
      | .ct e m => whileN c b n e m
      | .bk e m => some (.nx e m)
      | f => some f
    | .exc x m => some (.exc x e m)
    | .bad => some .bad
open Classical in
noncomputable def whileF (c : Env → Mem → Out Bool) (b : Env → Mem → Fl) (e : Env) (m : Mem) : Fl :=
  if h : ∃ n, (whileN c b n e m).isSome = true then (whileN c b h.choose e m).getD .bad else .bad
def evalT (G : Sg) (c : C) (e : Env) (m : Mem) : Out Bool := (evalC G c e m).bind fun d m => asBl d m
def setSome : List Nat → List D → Env → Env
  | i :: is, d :: ds, e => setSome is ds (e.set i (some d))
  | _, _, e => e
/-- o[k] = v -/
def putD (m : Mem) (o k v : D) : Option Mem := match o with
  | .loc n => match m[n]?, k with
    | some (.dk kvs), .str x => if kvs.length < sizeLine then some (m.set n (.dk (setK kvs (.inr x) v))) else none
    | _, _ => none
  | _ => none
def appD (m : Mem) (o v : D) : Option Mem := match o with
  | .loc n => match m[n]? with
    | some (.lst l) => if l.length < sizeLine then some (m.set n (.lst (l ++ [v]))) else none
    | _ => none
  | _ => none
mutual
noncomputable def execS (G : Sg) : S → Env → Mem → Fl
  | .drop c, e, m => (evalC G c e m).fl e fun _ m => .nx e m
  | .set i c, e, m => (evalC G c e m).fl e fun d m => .nx (e.set i (some d)) m
  | .unp t c, e, m => (evalC G c e m).fl e fun d m => match t.bind d e with | some e => .nx e m | none => .bad
  | .par is cs, e, m => (evalCs G cs e m).fl e fun ds m => .nx (setSome is ds e) m
  | .aug op i c, e, m => match e.getD i none with
    | some x => (evalC G c e m).fl e fun y m => match augD op x y with | some z => .nx (e.set i (some z)) m | none => .bad
    | none => .bad
  | .put o k v, e, m => (evalC G v e m).fl e fun v m => (evalC G o e m).fl e fun o m => (evalC G k e m).fl e fun k m =>
      match putD m o k v with | some m => .nx e m | none => .bad
  | .app i c, e, m => match e.getD i none with
    | some o => match rdL m o with
      | some _ => (evalC G c e m).fl e fun v m => match appD m o v with | some m => .nx e m | none => .bad
      | none => .bad
    | none => .bad
  | .ret c, e, m => (evalC G c e m).fl e fun d m => .rt d m
  | .retN, _, m => .rt .non m
  | .ite t a b, e, m => (evalT G t e m).fl e fun k m => if k then execSs G a e m else execSs G b e m
  | .for_ t it b, e, m => (evalIt G it e m).fl e fun s m => forGo s.stays (fun e m => execSs G b e m) t s.items e m
  | .while_ t b, e, m => whileF (fun e m => evalT G t e m) (fun e m => execSs G b e m) e m
  | .brk, e, m => .bk e m
  | .cont, e, m => .ct e m
  | .pass, e, m => .nx e m
noncomputable def execSs (G : Sg) : Ss → Env → Mem → Fl
  | .nil, e, m => .nx e m
  | .cons s l, e, m => (execS G s e m).andThen fun e m => execSs G l e m
end
def Fl.out (f : Fl) : Out D := match f with
  | .rt d m => .ok d m
  | .nx _ m => .ok .non m
  | .exc x _ m => .exc x m
  | _ => .bad
/-- a def's body at its arguments -/
noncomputable def bodyD (G : Sg) (n : Nat) (b : Ss) (args : List D) (m : Mem) : Out D :=
  (execSs G b (args.map some ++ List.replicate (n - args.length) none) m).out
end Z
/-! Z2: data in the abstract heap. -/
namespace Z
open PySem PySem.Spec PyProof.Rows L2

/-- what stands where: the places of the things that change, the lists that never will -/
structure Cfg where
  al : List Addr
  fz : Addr → Prop
/-- the fixed part: the written part of the heap, where each def stands -/
structure Bs where
  K : PySem.W.Frag
  fa : Nat → Option Addr
  /-- the classes of exceptions, their fields -/
  ec : Nat → Option (Addr × List Str)

mutual
inductive Den (B : Bs) (g : Cfg) (H : Hp) : V → D → Prop
  | non : Den B g H .non .non
  | bl (b : Bool) : Den B g H (.bl b) (.bl b)
  | int (i : Int) : Den B g H (.int i) (.int i)
  | str (s : Str) : Den B g H (.str s) (.str s)
  | tup {a : Addr} {xs : List V} {l : List D} : SqT B.K H a xs → Dens B g H xs l → Den B g H (.ref a) (.tup l)
  | lst {a : Addr} {xs : List V} {l : List D} : g.fz a → H a = some (.lst xs) → Dens B g H xs l → Den B g H (.ref a) (.lst l)
  | scr {a : Addr} {l : List Int} {o : Obj} : H a = some (.frz o (.lst (l.map V.int))) → Den B g H (.ref a) (.scr l)
  | scrK {a : Addr} {l : List Int} : (∀ H', SqL B.K H' a (l.map V.int)) → Den B g H (.ref a) (.scr l)
  | loc {a : Addr} {n : Nat} : g.al[n]? = some a → Den B g H (.ref a) (.loc n)
  | fn {a : Addr} {n : Nat} : B.fa n = some a → Den B g H (.ref a) (.fn n)
  | ty (s : String) : Den B g H (.ty s) (.ty s)
inductive Dens (B : Bs) (g : Cfg) (H : Hp) : List V → List D → Prop
  | nil : Dens B g H [] []
  | cons {v : V} {vs : List V} {d : D} {l : List D} : Den B g H v d → Dens B g H vs l → Dens B g H (v :: vs) (d :: l)
end
variable {B : Bs} {g g' g1 g2 : Cfg} {H H' H1 H2 : Hp} {m m' : Mem}

/-- a thing that changes, at its place -/
def MoR (B : Bs) (g : Cfg) (H : Hp) (a : Addr) : MO → Prop
  | .lst l => ∃ xs, H a = some (.lst xs) ∧ Dens B g H xs l
  | .dk kvs => ∃ ks, H a = some (.dK ks) ∧ Paired (fun (p : Key × V) (q : Key × D) => p.1 = q.1 ∧ Den B g H p.2 q.2) ks kvs
  | .ins _ _ => False

structure Rl (B : Bs) (g : Cfg) (m : Mem) (H : Hp) : Prop where
  nd : g.al.Nodup
  len : g.al.length = m.length
  mem : ∀ (n : Nat) (a : Addr) (mo : MO), g.al[n]? = some a → m[n]? = some mo → MoR B g H a mo
  sep : ∀ a ∈ g.al, ¬ g.fz a
  trk : ∀ a, g.fz a → ∃ xs, H a = some (.lst xs)

/-- what a step leaves -/
structure Mon (g : Cfg) (H : Hp) (g' : Cfg) (H' : Hp) : Prop where
  pre : ∃ t, g'.al = g.al ++ t
  sub : ∀ a, g.fz a → g'.fz a
  kf : ∀ a xs, g.fz a → H a = some (.lst xs) → H' a = some (.lst xs)
  kt : ∀ a xs, H a = some (.tup xs) → H' a = some (.tup xs)
  kz : ∀ a o u, H a = some (.frz o u) → H' a = some (.frz o u)
structure Ext (g : Cfg) (H : Hp) (g' : Cfg) (H' : Hp) : Prop where
  pre : ∃ t, g'.al = g.al ++ t
  sub : ∀ a, g.fz a → g'.fz a
  keep : ∀ a o, H a = some o → a ∉ g.al → H' a = some o
  newF : ∀ a, g'.fz a → g.fz a ∨ H a = none
  newA : ∀ a ∈ g'.al, a ∈ g.al ∨ H a = none
  trk : ∀ a, H a ≠ none → H' a ≠ none
theorem Ext.refl (g : Cfg) (H : Hp) : Ext g H g H := ⟨⟨[], by simp⟩, fun _ h => h, fun _ _ h _ => h, fun _ h => .inl h, fun _ h => .inl h, fun _ h => h⟩
theorem Ext.trans (a : Ext g H g1 H1) (b : Ext g1 H1 g2 H2) : Ext g H g2 H2 := by
  have non : ∀ {x : Addr}, H1 x = none → H x = none := fun {x} h => by
    cases e : H x with
    | none => rfl
    | some o => exact absurd h (a.trk x (by rw [e]; simp))
  refine ⟨?_, fun x h => b.sub x (a.sub x h), fun x o h hn => ?_, fun x h => ?_, fun x h => ?_, fun x h => b.trk x (a.trk x h)⟩
  · obtain ⟨t, e⟩ := a.pre
    obtain ⟨u, e2⟩ := b.pre
    exact ⟨t ++ u, by rw [e2, e, List.append_assoc]⟩
  · refine b.keep x o (a.keep x o h hn) fun hx => ?_
    rcases a.newA x hx with z | z
    · exact hn z
    · rw [z] at h; cases h
  · rcases b.newF x h with z | z
    · exact a.newF x z
    · exact .inr (non z)
  · rcases b.newA x h with z | z
    · exact a.newA x z
    · exact .inr (non z)

theorem Rl.alive (R : Rl B g m H) {a : Addr} (h : a ∈ g.al) : (∃ xs, H a = some (.lst xs)) ∨ ∃ ks, H a = some (.dK ks) := by
  obtain ⟨n, hn, e⟩ := List.getElem_of_mem h
  have h1 : g.al[n]? = some a := by rw [List.getElem?_eq_getElem hn, e]
  have hm : n < m.length := by rw [← R.len]; exact hn
  have q := R.mem n a m[n] h1 (List.getElem?_eq_getElem hm)
  cases e2 : m[n] with
  | lst l => rw [e2] at q; obtain ⟨xs, h, _⟩ := q; exact .inl ⟨xs, h⟩
  | dk kvs => rw [e2] at q; obtain ⟨ks, h, _⟩ := q; exact .inr ⟨ks, h⟩
  | ins c fs => rw [e2] at q; exact q.elim
theorem Rl.tupOut (R : Rl B g m H) {a : Addr} {xs : List V} (h : H a = some (.tup xs)) : a ∉ g.al := fun z => by
  rcases R.alive z with ⟨_, q⟩ | ⟨_, q⟩ <;> (rw [h] at q; cases q)
theorem Rl.frzOut (R : Rl B g m H) {a : Addr} {o : Obj} {u : HO} (h : H a = some (.frz o u)) : a ∉ g.al := fun z => by
  rcases R.alive z with ⟨_, q⟩ | ⟨_, q⟩ <;> (rw [h] at q; cases q)
theorem Ext.toMon (x : Ext g H g' H') (R : Rl B g m H) : Mon g H g' H' :=
  ⟨x.pre, x.sub, fun a xs f h => x.keep a _ h fun z => R.sep a z f, fun a xs h => x.keep a _ h (R.tupOut h), fun a o u h => x.keep a _ h (R.frzOut h)⟩
theorem Mon.sqT (x : Mon g H g' H') (R : Rl B g m H) {a : Addr} {xs : List V} (h : SqT B.K H a xs) : SqT B.K H' a xs := by
  rcases h with (h | ⟨o, h⟩) | h
  · exact .inl (.inl (x.kt _ _ h))
  · exact .inl (.inr ⟨o, x.kz _ _ _ h⟩)
  · exact .inr h
mutual
theorem Den.mon (x : Mon g H g' H') (R : Rl B g m H) : ∀ {v : V} {d : D}, Den B g H v d → Den B g' H' v d
  | _, _, .non => .non
  | _, _, .bl b => .bl b
  | _, _, .int i => .int i
  | _, _, .str s => .str s
  | _, _, .tup h r => .tup (x.sqT R h) (Dens.mon x R r)
  | _, _, .lst f h r => .lst (x.sub _ f) (x.kf _ _ f h) (Dens.mon x R r)
  | _, _, .scr h => .scr (x.kz _ _ _ h)
  | _, _, .scrK h => .scrK h
  | _, _, .loc (n := n) h => .loc (by
      obtain ⟨t, e⟩ := x.pre
      rw [e]
      have hn : n < g.al.length := (List.getElem?_eq_some_iff.mp h).1
      rw [List.getElem?_append_left hn]
      exact h)
  | _, _, .fn h => .fn h
  | _, _, .ty s => .ty s
theorem Dens.mon (x : Mon g H g' H') (R : Rl B g m H) : ∀ {vs : List V} {l : List D}, Dens B g H vs l → Dens B g' H' vs l
  | _, _, .nil => .nil
  | _, _, .cons h r => .cons (Den.mon x R h) (Dens.mon x R r)
end
theorem Den.ext (x : Ext g H g' H') (R : Rl B g m H) {v : V} {d : D} (h : Den B g H v d) : Den B g' H' v d := h.mon (x.toMon R) R
theorem Dens.ext (x : Ext g H g' H') (R : Rl B g m H) {v : List V} {d : List D} (h : Dens B g H v d) : Dens B g' H' v d := h.mon (x.toMon R) R
theorem Dens.length : ∀ {vs : List V} {l : List D}, Dens B g H vs l → vs.length = l.length
  | _, _, .nil => rfl
  | _, _, .cons _ r => by rw [List.length_cons, List.length_cons, Dens.length r]
theorem Dens.append : ∀ {vs ws : List V} {l k : List D}, Dens B g H vs l → Dens B g H ws k → Dens B g H (vs ++ ws) (l ++ k)
  | _, _, _, _, .nil, s => s
  | _, _, _, _, .cons h r, s => .cons h (Dens.append r s)
theorem Dens.take : ∀ {vs : List V} {l : List D} (n : Nat), Dens B g H vs l → Dens B g H (vs.take n) (l.take n)
  | _, _, 0, _ => by simp only [List.take_zero]; exact .nil
  | _, _, n + 1, .nil => .nil
  | _, _, n + 1, .cons h r => .cons h (Dens.take n r)
theorem Dens.drop : ∀ {vs : List V} {l : List D} (n : Nat), Dens B g H vs l → Dens B g H (vs.drop n) (l.drop n)
  | _, _, 0, r => r
  | _, _, n + 1, .nil => .nil
  | _, _, n + 1, .cons _ r => Dens.drop n r
theorem Dens.reverse : ∀ {vs : List V} {l : List D}, Dens B g H vs l → Dens B g H vs.reverse l.reverse
  | _, _, .nil => .nil
  | _, _, .cons h r => by rw [List.reverse_cons, List.reverse_cons]; exact (Dens.reverse r).append (.cons h .nil)
theorem Dens.get : ∀ {vs : List V} {l : List D} {i : Nat} {d : D}, Dens B g H vs l → l[i]? = some d → ∃ v, vs[i]? = some v ∧ Den B g H v d
  | _, _, _, _, .nil, e => by simp at e
  | _, _, 0, d, .cons h _, e => by simp at e; subst e; exact ⟨_, rfl, h⟩
  | _, _, i + 1, d, .cons _ r, e => by
    obtain ⟨v, h1, h2⟩ := Dens.get (i := i) (d := d) r (by simpa using e)
    exact ⟨v, by simpa using h1, h2⟩
theorem Dens.rep {vs : List V} {l : List D} (h : Dens B g H vs l) : ∀ k : Nat, Dens B g H (List.replicate k vs).flatten (List.replicate k l).flatten
  | 0 => .nil
  | k + 1 => by
    rw [List.replicate_succ, List.replicate_succ, List.flatten_cons, List.flatten_cons]
    exact h.append (Dens.rep h k)
theorem Dens.ints : ∀ {vs : List V} {ns : List Int}, Dens B g H vs (ns.map D.int) → vs = ns.map V.int
  | _, [], .nil => rfl
  | _, n :: ns, .cons h r => by
    cases h
    rw [Dens.ints r, List.map_cons]
theorem Dens.of_ints : ∀ ns : List Int, Dens B g H (ns.map V.int) (ns.map D.int)
  | [] => .nil
  | n :: ns => .cons (.int n) (Dens.of_ints ns)
theorem asInts_eq : ∀ {l : List D} {ns : List Int}, asInts l = some ns → l = ns.map D.int
  | [], ns, h => by simp [asInts] at h; subst h; rfl
  | d :: l, ns, h => by
    cases d <;> simp [asInts] at h
    obtain ⟨ks, h1, h2⟩ := h
    subst h2
    rw [asInts_eq h1, List.map_cons]
theorem asBools_eq : ∀ {l : List D} {ns : List Bool}, asBools l = some ns → l = ns.map D.bl
  | [], ns, h => by simp [asBools] at h; subst h; rfl
  | d :: l, ns, h => by
    cases d <;> simp [asBools] at h
    obtain ⟨ks, h1, h2⟩ := h
    subst h2
    rw [asBools_eq h1, List.map_cons]
theorem Dens.bls : ∀ {vs : List V} {ns : List Bool}, Dens B g H vs (ns.map D.bl) → vs = ns.map V.bl
  | _, [], .nil => rfl
  | _, n :: ns, .cons h r => by
    cases h
    rw [Dens.bls r, List.map_cons]

/-! ### new things -/
/-- a new object at p that is not listed in any way -/
theorem Ext.upd (R : Rl B g m H) {p : Addr} {o : HO} (hp : H p = none) : Ext g H g (L2.upd H p o) :=
  ⟨⟨[], by simp⟩, fun _ h => h, fun a o' h _ => by rw [upd_ne (ne_of_none h hp)]; exact h, fun _ h => .inl h, fun _ h => .inl h, fun a h => by
    by_cases e : a = p
    · subst e; rw [upd_same]; simp
    · rw [upd_ne e]; exact h⟩
theorem MoR.ext (x : Mon g H g' H') (R : Rl B g m H) (hk : ∀ a ∈ g.al, H' a = H a) {a : Addr} {mo : MO} (ha : a ∈ g.al) (h : MoR B g H a mo) : MoR B g' H' a mo := by
  cases mo with
  | lst l =>
    obtain ⟨xs, h1, h2⟩ := h
    exact ⟨xs, by rw [hk a ha]; exact h1, h2.mon x R⟩
  | dk kvs =>
    obtain ⟨ks, h1, h2⟩ := h
    exact ⟨ks, by rw [hk a ha]; exact h1, Paired.mapP h2 fun p q z => ⟨z.1, z.2.mon x R⟩⟩
  | ins c fs => exact h.elim
theorem Rl.notIn (R : Rl B g m H) {p : Addr} (hp : H p = none) : p ∉ g.al := fun z => by
  rcases R.alive z with ⟨_, q⟩ | ⟨_, q⟩ <;> (rw [hp] at q; cases q)
theorem Rl.upd (R : Rl B g m H) {p : Addr} {o : HO} (hp : H p = none) : Rl B g m (L2.upd H p o) := by
  have np := R.notIn hp
  refine ⟨R.nd, R.len, fun n a mo h1 h2 => ?_, R.sep, fun a h => ?_⟩
  · have ha : a ∈ g.al := List.mem_of_getElem? h1
    exact MoR.ext ((Ext.upd R hp).toMon R) R (fun b hb => upd_ne fun e => np (e ▸ hb)) ha (R.mem n a mo h1 h2)
  · obtain ⟨xs, q⟩ := R.trk a h
    exact ⟨xs, by rw [upd_ne (ne_of_none q hp)]; exact q⟩
/-- more lists told never to change -/
def Cfg.frz (g : Cfg) (p : Addr) : Cfg := ⟨g.al, fun a => g.fz a ∨ a = p⟩
theorem Ext.frz (R : Rl B g m H) {p : Addr} (hp : H p = none) {xs : List V} : Ext g H (g.frz p) (L2.upd H p (.lst xs)) := by
  have x := Ext.upd R (o := .lst xs) hp
  exact ⟨⟨[], by simp [Cfg.frz]⟩, fun _ h => .inl h, x.keep, fun a h => h.elim .inl fun e => .inr (by rw [e]; exact hp), fun _ h => .inl h, x.trk⟩
theorem Rl.frz (R : Rl B g m H) {p : Addr} (hp : H p = none) {xs : List V} : Rl B (g.frz p) m (L2.upd H p (.lst xs)) := by
  have np := R.notIn hp
  refine ⟨R.nd, R.len, fun n a mo h1 h2 => ?_, fun a ha h => ?_, fun a h => ?_⟩
  · have ha : a ∈ g.al := List.mem_of_getElem? h1
    exact MoR.ext ((Ext.frz R hp).toMon R) R (fun b hb => upd_ne fun e => np (e ▸ hb)) ha (R.mem n a mo h1 h2)
  · rcases h with h | h
    · exact R.sep a ha h
    · exact np (h ▸ ha)
  · rcases h with h | h
    · obtain ⟨ys, q⟩ := R.trk a h
      exact ⟨ys, by rw [upd_ne (ne_of_none q hp)]; exact q⟩
    · exact ⟨xs, by rw [h, upd_same]⟩
/-- a new thing that changes -/
def Cfg.more (g : Cfg) (p : Addr) : Cfg := ⟨g.al ++ [p], g.fz⟩
theorem Ext.more (R : Rl B g m H) {p : Addr} (hp : H p = none) {o : HO} : Ext g H (g.more p) (L2.upd H p o) := by
  have x := Ext.upd R (o := o) hp
  exact ⟨⟨[p], rfl⟩, fun _ h => h, x.keep, fun a h => .inl h, fun a h => by
    rcases List.mem_append.mp h with h | h
    · exact .inl h
    · rw [List.mem_singleton.mp h]; exact .inr hp, x.trk⟩
theorem Rl.more (R : Rl B g m H) {p : Addr} (hp : H p = none) {o : HO} {mo : MO} (hm : MoR B (g.more p) (L2.upd H p o) p mo) : Rl B (g.more p) (m ++ [mo]) (L2.upd H p o) := by
  have np := R.notIn hp
  have nf : ¬ g.fz p := fun z => by obtain ⟨xs, q⟩ := R.trk p z; rw [hp] at q; cases q
  refine ⟨?_, by simp [Cfg.more, R.len], fun n a mo' h1 h2 => ?_, fun a ha h => ?_, fun a h => ?_⟩
  · show (g.al ++ [p]).Nodup
    rw [List.nodup_append]
    exact ⟨R.nd, by simp, fun a ha b hb e => np (by rw [List.mem_singleton.mp hb] at e; exact e ▸ ha)⟩
  · have h1 : (g.al ++ [p])[n]? = some a := h1
    by_cases hn : n < g.al.length
    · rw [List.getElem?_append_left hn] at h1
      rw [List.getElem?_append_left (by rw [← R.len]; exact hn)] at h2
      have ha : a ∈ g.al := List.mem_of_getElem? h1
      exact MoR.ext ((Ext.more R hp).toMon R) R (fun b hb => upd_ne fun e => np (e ▸ hb)) ha (R.mem n a mo' h1 h2)
    · rw [List.getElem?_append_right (Nat.le_of_not_lt hn)] at h1
      rw [List.getElem?_append_right (by rw [← R.len]; exact Nat.le_of_not_lt hn)] at h2
      have hz : n - g.al.length = 0 := by
        cases q : n - g.al.length with
        | zero => rfl
        | succ k => rw [q] at h1; simp at h1
      rw [hz] at h1
      rw [← R.len, hz] at h2
      simp at h1 h2
      subst h1 h2
      exact hm
  · rcases List.mem_append.mp ha with ha | ha
    · exact R.sep a ha h
    · rw [List.mem_singleton.mp ha] at h
      exact nf h
  · obtain ⟨ys, q⟩ := R.trk a h
    exact ⟨ys, by rw [upd_ne (ne_of_none q hp)]; exact q⟩
/-- a thing changed -/
theorem Ext.put (R : Rl B g m H) {n : Nat} {a : Addr} (ha : g.al[n]? = some a) {o : HO} : Ext g H g (L2.upd H a o) := by
  have hm := List.mem_of_getElem? ha
  exact ⟨⟨[], by simp⟩, fun _ h => h, fun b o' h hb => by rw [upd_ne (show b ≠ a from fun e => hb (e ▸ hm))]; exact h, fun _ h => .inl h, fun _ h => .inl h, fun b h => by
    by_cases e : b = a
    · subst e; rw [upd_same]; simp
    · rw [upd_ne e]; exact h⟩
theorem Rl.put (R : Rl B g m H) {n : Nat} {a : Addr} (ha : g.al[n]? = some a) {o : HO} {mo : MO} (hm : MoR B g (L2.upd H a o) a mo) : Rl B g (m.set n mo) (L2.upd H a o) := by
  have x := Ext.put R ha (o := o)
  have hma := List.mem_of_getElem? ha
  refine ⟨R.nd, by rw [List.length_set]; exact R.len, fun k b mo' h1 h2 => ?_, R.sep, fun b h => ?_⟩
  · by_cases hk : n = k
    · subst hk
      rw [ha] at h1; cases h1
      have hl : n < m.length := by rw [← R.len]; exact (List.getElem?_eq_some_iff.mp ha).1
      rw [List.getElem?_set_self hl] at h2
      cases h2
      exact hm
    · rw [List.getElem?_set_ne hk] at h2
      have hb : b ∈ g.al := List.mem_of_getElem? h1
      have nb : b ≠ a := fun e => by
        subst e
        obtain ⟨i1, e1⟩ := List.getElem?_eq_some_iff.mp h1
        obtain ⟨i2, e2⟩ := List.getElem?_eq_some_iff.mp ha
        exact hk ((List.getElem_inj R.nd).mp (e2.trans e1.symm))
      have q := R.mem k b mo' h1 h2
      cases mo' with
      | lst l =>
        obtain ⟨xs, q1, q2⟩ := q
        exact ⟨xs, by rw [upd_ne nb]; exact q1, q2.ext x R⟩
      | dk kvs =>
        obtain ⟨ks, q1, q2⟩ := q
        exact ⟨ks, by rw [upd_ne nb]; exact q1, Paired.mapP q2 fun p q z => ⟨z.1, z.2.ext x R⟩⟩
      | ins c fs => exact q.elim
  · obtain ⟨xs, q⟩ := R.trk b h
    exact ⟨xs, by rw [upd_ne (show b ≠ a from fun e => R.sep a hma (e ▸ h))]; exact q⟩

/-! ### adopting what stands already -/
theorem Mon.frz (g : Cfg) (H : Hp) (a : Addr) : Mon g H (g.frz a) H := ⟨⟨[], by simp [Cfg.frz]⟩, fun _ h => .inl h, fun _ _ _ h => h, fun _ _ h => h, fun _ _ _ h => h⟩
theorem Mon.more (g : Cfg) (H : Hp) (a : Addr) : Mon g H (g.more a) H := ⟨⟨[a], rfl⟩, fun _ h => h, fun _ _ _ h => h, fun _ _ h => h, fun _ _ _ h => h⟩
theorem Ext.adoptF {g0 : Cfg} {H0 : Hp} (x : Ext g0 H0 g H) {a : Addr} (h : H0 a = none) : Ext g0 H0 (g.frz a) H :=
  ⟨x.pre, fun b h => .inl (x.sub b h), x.keep, fun b hb => hb.elim (x.newF b) fun e => .inr (by rw [e]; exact h), x.newA, x.trk⟩
theorem Ext.adoptA {g0 : Cfg} {H0 : Hp} (x : Ext g0 H0 g H) {a : Addr} (h : H0 a = none) : Ext g0 H0 (g.more a) H :=
  ⟨let ⟨t, e⟩ := x.pre; ⟨t ++ [a], by show g.al ++ [a] = _; rw [e, List.append_assoc]⟩, x.sub, x.keep, x.newF, fun b hb => by
    rcases List.mem_append.mp hb with z | z
    · exact x.newA b z
    · rw [List.mem_singleton.mp z]; exact .inr h, x.trk⟩
theorem Rl.adoptF (R : Rl B g m H) {a : Addr} {xs : List V} (na : a ∉ g.al) (h : H a = some (.lst xs)) : Rl B (g.frz a) m H :=
  ⟨R.nd, R.len, fun n b mo h1 h2 => MoR.ext (Mon.frz g H a) R (fun _ _ => rfl) (List.mem_of_getElem? h1) (R.mem n b mo h1 h2), fun b hb h => h.elim (R.sep b hb) fun e => na (e ▸ hb),
    fun b hb => hb.elim (R.trk b) fun e => ⟨xs, by rw [e]; exact h⟩⟩
theorem Rl.adoptA (R : Rl B g m H) {a : Addr} {mo : MO} (na : a ∉ g.al) (nf : ¬ g.fz a) (hm : MoR B (g.more a) H a mo) : Rl B (g.more a) (m ++ [mo]) H := by
  refine ⟨?_, by simp [Cfg.more, R.len], fun n b mo' h1 h2 => ?_, fun b hb h => ?_, R.trk⟩
  · show (g.al ++ [a]).Nodup
    rw [List.nodup_append]
    exact ⟨R.nd, by simp, fun x hx y hy e => na (by rw [List.mem_singleton.mp hy] at e; exact e ▸ hx)⟩
  · have h1 : (g.al ++ [a])[n]? = some b := h1
    by_cases hn : n < g.al.length
    · rw [List.getElem?_append_left hn] at h1
      rw [List.getElem?_append_left (by rw [← R.len]; exact hn)] at h2
      exact MoR.ext (Mon.more g H a) R (fun _ _ => rfl) (List.mem_of_getElem? h1) (R.mem n b mo' h1 h2)
    · rw [List.getElem?_append_right (Nat.le_of_not_lt hn)] at h1
      rw [List.getElem?_append_right (by rw [← R.len]; exact Nat.le_of_not_lt hn)] at h2
      have hz : n - g.al.length = 0 := by
        cases q : n - g.al.length with
        | zero => rfl
        | succ k => rw [q] at h1; simp at h1
      rw [hz] at h1
      rw [← R.len, hz] at h2
      simp at h1 h2
      subst h1 h2
      exact hm
  · rcases List.mem_append.mp hb with hb | hb
    · exact R.sep b hb h
    · rw [List.mem_singleton.mp hb] at h
      exact nf h

/-- an object that is nobody's is changed -/
def isLD : HO → Bool
  | .lst _ => true
  | .dK _ => true
  | _ => false
theorem Rl.updOut (R : Rl B g m H) {p : Addr} {o0 o : HO} (h : H p = some o0) (h0 : isLD o0 = true) (np : p ∉ g.al) (nf : ¬ g.fz p) : Mon g H g (L2.upd H p o) ∧ Rl B g m (L2.upd H p o) := by
  have nt : ∀ a u, H a = some u → isLD u = false → a ≠ p := fun a u h1 h2 e => by
    rw [e, h] at h1; cases h1; rw [h0] at h2; cases h2
  have x : Mon g H g (L2.upd H p o) := ⟨⟨[], by simp⟩, fun _ h => h, fun a xs f h1 => by rw [upd_ne (show a ≠ p from fun e => nf (e ▸ f))]; exact h1,
    fun a xs h1 => by rw [upd_ne (nt a _ h1 rfl)]; exact h1, fun a o u h1 => by rw [upd_ne (nt a _ h1 rfl)]; exact h1⟩
  refine ⟨x, R.nd, R.len, fun n a mo h1 h2 => ?_, R.sep, fun a h1 => ?_⟩
  · have ha : a ∈ g.al := List.mem_of_getElem? h1
    exact MoR.ext x R (fun b hb => upd_ne fun e => np (e ▸ hb)) ha (R.mem n a mo h1 h2)
  · obtain ⟨xs, q⟩ := R.trk a h1
    exact ⟨xs, by rw [upd_ne (show a ≠ p from fun e => nf (e ▸ h1))]; exact q⟩

/-- the slots -/
structure EnvR (B : Bs) (g : Cfg) (H : Hp) (σ : L2.St) (e : Env) : Prop where
  len : e.length = σ.length
  at_ : ∀ (i : Nat) (d : D), e[i]? = some (some d) → ∃ v, σ[i]? = some (some v) ∧ Den B g H v d
theorem EnvR.ext {σ : L2.St} {e : Env} (x : Ext g H g' H') (R : Rl B g m H) (E : EnvR B g H σ e) : EnvR B g' H' σ e :=
  ⟨E.len, fun i d h => let ⟨v, h1, h2⟩ := E.at_ i d h; ⟨v, h1, h2.ext x R⟩⟩
theorem EnvR.set {σ : L2.St} {e : Env} (E : EnvR B g H σ e) (i : Nat) {v : V} {d : D} (h : Den B g H v d) : EnvR B g H (σ.set i (some v)) (e.set i (some d)) := by
  refine ⟨by rw [List.length_set, List.length_set]; exact E.len, fun j d' h1 => ?_⟩
  by_cases hj : i = j
  · subst hj
    have hl : i < e.length := by
      have := (List.getElem?_eq_some_iff.mp h1).1
      rwa [List.length_set] at this
    rw [List.getElem?_set_self hl] at h1
    cases h1
    exact ⟨v, by rw [List.getElem?_set_self (by rw [← E.len]; exact hl)], h⟩
  · rw [List.getElem?_set_ne hj] at h1
    obtain ⟨w, h2, h3⟩ := E.at_ j d' h1
    exact ⟨w, by rw [List.getElem?_set_ne hj]; exact h2, h3⟩
theorem EnvR.wipe {σ : L2.St} {e : Env} (E : EnvR B g H σ e) : ∀ vs : List Nat, EnvR B g H (L2.wipe σ vs) (Z.wipe e vs)
  | [] => E
  | v :: vs => by
    have ih := EnvR.wipe E vs
    unfold L2.wipe Z.wipe
    refine ⟨by rw [List.length_set, List.length_set]; exact ih.len, fun j d' h1 => ?_⟩
    by_cases hj : v = j
    · subst hj
      have hl : v < (Z.wipe e vs).length := by
        have := (List.getElem?_eq_some_iff.mp h1).1
        rwa [List.length_set] at this
      rw [List.getElem?_set_self hl] at h1
      cases h1
    · rw [List.getElem?_set_ne hj] at h1
      obtain ⟨w, h2, h3⟩ := ih.at_ j d' h1
      exact ⟨w, by rw [List.getElem?_set_ne hj]; exact h2, h3⟩
theorem EnvR.get {σ : L2.St} {e : Env} (E : EnvR B g H σ e) {i : Nat} {d : D} (h : e.getD i none = some d) : ∃ v, σ[i]? = some (some v) ∧ Den B g H v d := by
  refine E.at_ i d ?_
  rw [List.getD_eq_getElem?_getD] at h
  cases q : e[i]? with
  | none => rw [q] at h; cases h
  | some o => rw [q] at h; simp at h; rw [h]

/-! ### readings -/
/-- what is wanted of an exception: its class and dict by the class's number -/
abbrev XW := Ex → Cfg → Mem → Hp → Prop
/-- .. at a place of a body: the slots, what they stand for -/
abbrev WE := L2.St → Env → XW
def Post (B : Bs) (g : Cfg) (H : Hp) (W : XW) {α : Type} (R : Cfg → Mem → Hp → α → Prop) : Out α → Prop
  | .ok a m' => ∀ g' H', Ext g H g' H' → Rl B g' m' H' → R g' m' H' a
  | .exc x m' => ∀ g' H', Ext g H g' H' → Rl B g' m' H' → W x g' m' H'
  | .bad => False
theorem Post.ext {W : XW} {α : Type} {R : Cfg → Mem → Hp → α → Prop} {o : Out α} (x : Ext g H g1 H1) (h : Post B g H W R o) : Post B g1 H1 W R o := by
  cases o with
  | ok a m' => exact fun g' H' y r => h g' H' (x.trans y) r
  | exc a m' => exact fun g' H' y r => h g' H' (x.trans y) r
  | bad => exact h
/-- the reading of an expression's code -/
def tEv (B : Bs) (G : Sg) (W : WE) (c : C) : TE := fun σ H Q => ∃ g m e, Rl B g m H ∧ EnvR B g H σ e ∧
  Post B g H (W σ e) (fun g' m' H' d => ∀ v, Den B g' H' v d → Q v H') (evalC G c e m)
def tEvs (B : Bs) (G : Sg) (W : WE) (l : Cs) : TA := fun σ H Q => ∃ g m e, Rl B g m H ∧ EnvR B g H σ e ∧
  Post B g H (W σ e) (fun g' m' H' ds => ∀ vs, Dens B g' H' vs ds → Q vs H') (evalCs G l e m)
def tEvT (B : Bs) (G : Sg) (W : WE) (c : C) : TT := fun σ H Q => ∃ g m e, Rl B g m H ∧ EnvR B g H σ e ∧
  Post B g H (W σ e) (fun g' m' H' k => Q k H') (evalT G c e m)
end Z
/-! Z3: expressions. -/
namespace Z
open PySem PySem.Spec PyProof.Rows L2
variable {B : Bs} {G : Sg} {W : WE} {U : XW} {X : Cx} {g g' g1 g2 : Cfg} {H H' H1 H2 : Hp} {m m' m1 : Mem}

theorem peI {e : Expr} {t t' : TE} (h : PE X e t) (i : ∀ σ H Q, t' σ H Q → t σ H Q) : PE X e t' := ⟨fun pins s σ H Q I q => h.run pins s σ H Q I (i σ H Q q)⟩
theorem ptI {e : Expr} {t t' : TT} (h : PT X e t) (i : ∀ σ H Q, t' σ H Q → t σ H Q) : PT X e t' := ⟨fun pins s σ H Q I q => h.run pins s σ H Q I (i σ H Q q)⟩
theorem paI {es : List Expr} {t t' : TA} (h : PA X es t) (i : ∀ σ H Q, t' σ H Q → t σ H Q) : PA X es t' := ⟨fun pos pins s σ H Q I q => h.run pos pins s σ H Q I (i σ H Q q)⟩
theorem Post.imp {α : Type} {R R' : Cfg → Mem → Hp → α → Prop} {o : Out α} (h : Post B g H U R o) (i : ∀ g' m' H' a, Ext g H g' H' → Rl B g' m' H' → o = .ok a m' → R g' m' H' a → R' g' m' H' a) : Post B g H U R' o := by
  cases o with
  | ok a m' => exact fun g' H' x r => i g' m' H' a x r rfl (h g' H' x r)
  | exc x m' => exact h
  | bad => exact h
theorem Post.bind {α β : Type} {R : Cfg → Mem → Hp → β → Prop} {o : Out α} {f : α → Mem → Out β} (h : Post B g H U R (o.bind f)) :
    Post B g H U (fun g1 m1 H1 a => Post B g1 H1 U R (f a m1)) o := by
  cases o with
  | ok a m1 => exact fun g' H' x r => Post.ext x h
  | exc x m' => exact h
  | bad => exact h
theorem Post.lifted {α : Type} {R : Cfg → Mem → Hp → α → Prop} {o : Option α} (h : Post B g H U R (Z.lift o m)) : ∃ a, o = some a ∧ ∀ g' H', Ext g H g' H' → Rl B g' m H' → R g' m H' a := by
  cases o with
  | none => exact h.elim
  | some a => exact ⟨a, rfl, h⟩
theorem Post.ok0 {α : Type} {R : Cfg → Mem → Hp → α → Prop} {a : α} (r : Rl B g m H) (h : Post B g H U R (.ok a m)) : R g m H a := h g H (Ext.refl g H) r

/-- where the rules hold -/
structure Ctx (B : Bs) (X : Cx) : Prop where
  K : X.K = B.K
  calm : X.calm = true
  nd : X.N.Nodup
  un : X.A.units + 200 < cLine
  gd : X.A.guards = some []

/-! ### a value's fate -/
/-- what comes of an operation: d, from the state g m H -/
def Res (B : Bs) (g : Cfg) (m : Mem) (H : Hp) (Q : VK) (d : D) : Prop := ∀ g' H', Ext g H g' H' → Rl B g' m H' → ∀ v, Den B g' H' v d → Q v H'
theorem Res.same {Q : VK} {d : D} (R : Rl B g m H) (h : Res B g m H Q d) {v : V} (hv : Den B g H v d) : Q v H := h g H (Ext.refl g H) R v hv
/-- a new list -/
theorem Res.lst {Q : VK} {l : List D} (R : Rl B g m H) (h : Res B g m H Q (.lst l)) {p : Addr} (hp : H p = none) {xs : List V} (hx : Dens B g H xs l) : Q (.ref p) (L2.upd H p (.lst xs)) :=
  h _ _ (Ext.frz R hp) (Rl.frz R hp) _ (.lst (.inr rfl) upd_same (hx.ext (Ext.frz R hp) R))
/-- a new tuple -/
theorem Res.tup {Q : VK} {l : List D} (R : Rl B g m H) (h : Res B g m H Q (.tup l)) {p : Addr} (hp : H p = none) {xs : List V} (hx : Dens B g H xs l) : Q (.ref p) (L2.upd H p (.tup xs)) :=
  h _ _ (Ext.upd R hp) (Rl.upd R hp) _ (.tup (SqT.of upd_same) (hx.ext (Ext.upd R hp) R))

/-! ### fresh lists -/
/-- from the state g H a list stands at a, new, at nobody's hand -/
structure Fresh (B : Bs) (H : Hp) (g' : Cfg) (H' : Hp) (a : Addr) (l : List D) : Prop where
  new : H a = none
  nf : ¬ g'.fz a
  na : a ∉ g'.al
  is_ : ∃ xs, H' a = some (.lst xs) ∧ Dens B g' H' xs l
/-- the fate of an operation that brings a new list, which nobody else has -/
def FinF (B : Bs) (g : Cfg) (H : Hp) (Q : VK) (d : D) (m' : Mem) : Prop := ∀ g' H', Ext g H g' H' → Rl B g' m' H' →
  match d with
  | .lst l => ∀ a, Fresh B H g' H' a l → Q (.ref a) H'
  | _ => ∀ v, Den B g' H' v d → Q v H'
def PostF (B : Bs) (g : Cfg) (H : Hp) (U : XW) (Q : VK) : Out D → Prop
  | .ok d m' => FinF B g H Q d m'
  | .exc x m' => ∀ g' H', Ext g H g' H' → Rl B g' m' H' → U x g' m' H'
  | .bad => False
/-- the reading of code that brings a new list, which nobody else has -/
def tEvF (B : Bs) (G : Sg) (W : WE) (c : C) : TE := fun σ H Q => ∃ g m e, Rl B g m H ∧ EnvR B g H σ e ∧ PostF B g H (W σ e) Q (evalC G c e m)
theorem finF_of {Q : VK} {d : D} {m' : Mem} (h : ∀ g' H', Ext g H g' H' → Rl B g' m' H' → ∀ v, Den B g' H' v d → Q v H') : FinF B g H Q d m' := fun g' H' x R => by
  cases d with
  | lst l => exact fun a f => let ⟨xs, h1, h2⟩ := f.is_; h _ _ (x.adoptF f.new) (R.adoptF f.na h1) _ (.lst (.inr rfl) h1 (h2.mon (Mon.frz _ _ _) R))
  | _ => exact h g' H' x R
/-- told never to change -/
theorem rd_frz {c : C} {σ : L2.St} {H : Hp} {Q : VK} (h : tEv B G W c σ H Q) : tEvF B G W c σ H Q := by
  obtain ⟨g, m, e, R, E, p⟩ := h
  refine ⟨g, m, e, R, E, ?_⟩
  generalize evalC G c e m = o at p
  cases o with
  | ok d m' => exact finF_of p
  | exc x m' => exact p
  | bad => exact p
theorem tEvF_of {e : Expr} {c : C} (h : PE X e (tEvF B G W c)) : PE X e (tEv B G W c) := peI h fun _ _ _ => rd_frz
/-- laid among the things that change -/
theorem rd_new {c : C} {σ : L2.St} {H : Hp} {Q : VK} (h : tEv B G W (.new c) σ H Q) : tEvF B G W c σ H Q := by
  obtain ⟨g, m, e, R, E, p⟩ := h
  refine ⟨g, m, e, R, E, ?_⟩
  unfold evalC at p
  generalize evalC G c e m = o at p
  cases o with
  | ok d m' =>
    cases d with
    | lst l =>
      refine fun g' H' x R' a f => ?_
      obtain ⟨xs, h1, h2⟩ := f.is_
      have ha : (g'.more a).al[m'.length]? = some a := by
        show (g'.al ++ [a])[m'.length]? = some a
        rw [← R'.len, List.getElem?_append_right (Nat.le_refl _)]
        simp
      exact p _ _ (x.adoptA f.new) (R'.adoptA f.na f.nf (mo := .lst l) ⟨xs, h1, h2.mon (Mon.more _ _ _) R'⟩) _ (.loc ha)
    | _ => exact p.elim
  | exc x m' => exact p
  | bad => exact p
theorem tEv_new {e : Expr} {c : C} (h : PE X e (tEvF B G W c)) : PE X e (tEv B G W (.new c)) := peI h fun _ _ _ => rd_new
/-- a new list at p -/
theorem fresh_upd (R : Rl B g m H) {p : Addr} (hp : H p = none) {xs : List V} {l : List D} (hx : Dens B g H xs l) : Fresh B H g (L2.upd H p (.lst xs)) p l :=
  ⟨hp, fun z => (by obtain ⟨ys, q⟩ := R.trk p z; rw [hp] at q; cases q), R.notIn hp, xs, upd_same, hx.ext (Ext.upd R hp) R⟩
theorem Fresh.from {g0 : Cfg} {H0 : Hp} {a : Addr} {l : List D} (x : Ext g0 H0 g H) (f : Fresh B H g' H' a l) : Fresh B H0 g' H' a l :=
  ⟨by
    cases e : H0 a with
    | none => rfl
    | some o => exact absurd f.new (x.trk a (by rw [e]; simp)), f.nf, f.na, f.is_⟩
theorem FinF.ext {Q : VK} {d : D} {m' : Mem} (x : Ext g H g1 H1) (h : FinF B g H Q d m') : FinF B g1 H1 Q d m' := fun g' H' y R => by
  have q := h g' H' (x.trans y) R
  cases d with
  | lst l => exact fun a f => q a (f.from x)
  | _ => exact q
theorem PostF.ext {Q : VK} {o : Out D} (x : Ext g H g1 H1) (h : PostF B g H U Q o) : PostF B g1 H1 U Q o := by
  cases o with
  | ok d m' => exact FinF.ext x h
  | exc y m' => exact fun g' H' z R => h g' H' (x.trans z) R
  | bad => exact h
theorem PostF.bind {α : Type} {Q : VK} {o : Out α} {f : α → Mem → Out D} (h : PostF B g H U Q (o.bind f)) : Post B g H U (fun g1 m1 H1 a => PostF B g1 H1 U Q (f a m1)) o := by
  cases o with
  | ok a m1 => exact fun g' H' x r => PostF.ext x h
  | exc x m' => exact h
  | bad => exact h
/-- the end of an operation at g m H that brings a new list at p -/
theorem FinF.lst {Q : VK} {l : List D} (R : Rl B g m H) (h : FinF B g H Q (.lst l) m) {p : Addr} (hp : H p = none) {xs : List V} (hx : Dens B g H xs l) : Q (.ref p) (L2.upd H p (.lst xs)) :=
  h g _ (Ext.upd R hp) (Rl.upd R hp) p (fresh_upd R hp hx)
theorem FinF.flat {Q : VK} {d : D} (R : Rl B g m H) (h : FinF B g H Q d m) (nl : ∀ l, d ≠ .lst l) {v : V} (hv : Den B g H v d) : Q v H := by
  have q := h g H (Ext.refl g H) R
  cases d with
  | lst l => exact absurd rfl (nl l)
  | _ => exact q v hv
theorem FinF.tup {Q : VK} {l : List D} (R : Rl B g m H) (h : FinF B g H Q (.tup l) m) {p : Addr} (hp : H p = none) {xs : List V} (hx : Dens B g H xs l) : Q (.ref p) (L2.upd H p (.tup xs)) :=
  h g _ (Ext.upd R hp) (Rl.upd R hp) _ (.tup (SqT.of upd_same) (hx.ext (Ext.upd R hp) R))

/-! ### names, constants, argument lists, displays -/
theorem pz_var {i : Nat} {x : Str} {pos : Pos} (hN : X.N[i]? = some x) (hv : Vis X.env.scope x) (hd : (x == ("__debug__" : Str)) = false) (hcd : (x == ("__classdict__" : Str)) = false) : PE X (.Name x pos) (tEv B G W (.var i)) := by
  refine peI (pe_var hN hv hd hcd) fun σ H Q ⟨g, m, e, R, E, p⟩ => ?_
  unfold evalC at p
  obtain ⟨d, e1, q⟩ := p.lifted
  obtain ⟨v, h1, h2⟩ := E.get e1
  exact ⟨v, h1, q g H (Ext.refl g H) R v h2⟩
theorem pz_con {e : Expr} {v : V} {d : D} (h : PE X e (tC v)) (hd : ∀ g H, Den B g H v d) : PE X e (tEv B G W (.con d)) := by
  refine peI h fun σ H Q ⟨g, m, e, R, E, p⟩ => ?_
  unfold evalC at p
  exact p.ok0 R v (hd g H)
theorem az_nil : PA X [] (tEvs B G W .nil) := by
  refine paI pa_nil fun σ H Q ⟨g, m, e, R, E, p⟩ => ?_
  unfold evalCs at p
  exact p.ok0 R [] .nil
theorem az_cons {e : Expr} {es : List Expr} {c : C} {l : Cs} (h : PE X e (tEv B G W c)) (t : PA X es (tEvs B G W l)) (hs : starEach (e :: es) X.env = (false, eval e X.env) :: starEach es X.env) : PA X (e :: es) (tEvs B G W (.cons c l)) := by
  refine paI (pa_cons h t hs) fun σ H Q ⟨g, m, e, R, E, p⟩ => ⟨g, m, e, R, E, ?_⟩
  unfold evalCs at p
  refine p.bind.imp fun g1 m1 H1 d x R1 _ q v hv => ⟨g1, m1, e, R1, E.ext x R, ?_⟩
  refine q.bind.imp fun g2 m2 H2 ds y R2 _ z vs hvs => ?_
  exact z.ok0 R2 (v :: vs) (.cons (hv.ext y R1) hvs)
def Cs.len : Cs → Nat
  | .nil => 0
  | .cons _ l => l.len + 1
theorem evalCs_len : ∀ {l : Cs} {e : Env} {m m' : Mem} {ds : List D}, evalCs G l e m = .ok ds m' → ds.length = l.len
  | .nil, e, m, m', ds, h => by
    unfold evalCs at h
    cases h
    rfl
  | .cons c l, e, m, m', ds, h => by
    unfold evalCs at h
    cases h1 : evalC G c e m with
    | ok d m1 =>
      rw [h1, Out.bind_ok] at h
      cases h2 : evalCs G l e m1 with
      | ok xs m2 =>
        rw [h2, Out.bind_ok] at h
        cases h
        rw [List.length_cons, evalCs_len h2]
        rfl
      | exc x m2 => rw [h2] at h; cases h
      | bad => rw [h2] at h; cases h
    | exc x m2 => rw [h1] at h; cases h
    | bad => rw [h1] at h; cases h
theorem small_of {n : Nat} (h : n ≤ 1000) : n ≤ sizeLine := Nat.le_of_lt (small1000 h)
theorem pz_tup {es : List Expr} {x1 : Nat} {pos : Pos} {l : Cs} (h : PA X es (tEvs B G W l)) (hl : l.len ≤ 1000) : PE X (.Tuple es x1 pos) (tEv B G W (.tup l)) := by
  refine peI (pe_tup h) fun σ H Q ⟨g, m, e, R, E, p⟩ => ⟨g, m, e, R, E, ?_⟩
  unfold evalC at p
  refine p.bind.imp fun g1 m1 H1 ds x R1 eq q vs hvs => ⟨?_, fun a ha => ?_⟩
  · rw [hvs.length, evalCs_len eq]; exact small_of hl
  · exact Res.tup R1 q ha hvs
theorem pf_lst {es : List Expr} {pos : Pos} {l : Cs} (h : PA X es (tEvs B G W l)) (hl : l.len ≤ 1000) : PE X (.List es pos) (tEvF B G W (.lst l)) := by
  refine peI (pe_lst h) fun σ H Q ⟨g, m, e, R, E, p⟩ => ⟨g, m, e, R, E, ?_⟩
  unfold evalC at p
  refine p.bind.imp fun g1 m1 H1 ds x R1 eq q vs hvs => ⟨?_, fun a ha => ?_⟩
  · rw [hvs.length, evalCs_len eq]; exact small_of hl
  · exact FinF.lst R1 q ha hvs

/-! ### what is read of data -/
theorem Den.rdL {v : V} {d : D} {l : List D} (R : Rl B g m H) (h : Den B g H v d) (e : rdL m d = some l) : ∃ a xs, v = .ref a ∧ H a = some (.lst xs) ∧ Dens B g H xs l := by
  cases h with
  | lst f h r => cases e; exact ⟨_, _, rfl, h, r⟩
  | @loc a n h =>
    unfold Z.rdL at e
    cases q : m[n]? with
    | none => simp [q] at e
    | some mo =>
      cases mo with
      | lst l' =>
        simp [q] at e
        subst e
        obtain ⟨xs, h1, h2⟩ := R.mem n a _ h q
        exact ⟨_, _, rfl, h1, h2⟩
      | _ => simp [q] at e
  | _ => cases e
/-- a list or a tuple read -/
theorem Den.rdS {v : V} {d : D} {k : Bool} {l : List D} (R : Rl B g m H) (h : Den B g H v d) (e : rdS m d = some (k, l)) : ∃ a xs, v = .ref a ∧ Dens B g H xs l ∧
    (k = true → SqL B.K H a xs) ∧ (k = false → SqT B.K H a xs) := by
  cases h with
  | lst f h r => cases e; exact ⟨_, _, rfl, r, fun _ => SqL.of h, fun z => Bool.noConfusion z⟩
  | tup h r => cases e; exact ⟨_, _, rfl, r, fun z => Bool.noConfusion z, fun _ => h⟩
  | scr h => cases e; exact ⟨_, _, rfl, Dens.of_ints _, fun _ => .inl (.inr ⟨_, h⟩), fun z => Bool.noConfusion z⟩
  | scrK h => cases e; exact ⟨_, _, rfl, Dens.of_ints _, fun _ => h H, fun z => Bool.noConfusion z⟩
  | @loc a n h =>
    unfold Z.rdS at e
    cases q : m[n]? with
    | none => simp [q] at e
    | some mo =>
      cases mo with
      | lst l' =>
        simp [q] at e
        obtain ⟨e1, e2⟩ := e
        subst e1 e2
        obtain ⟨xs, h1, h2⟩ := R.mem n a _ h q
        exact ⟨_, _, rfl, h2, fun _ => SqL.of h1, fun z => Bool.noConfusion z⟩
      | _ => simp [q] at e
  | _ => cases e
mutual
theorem Den.dp : ∀ {v : V} {d : D} {x : PyData}, Den B g H v d → toPy d = some x → Dp B.K H v x
  | _, _, x, .non, e => by simp only [toPy, Option.some.injEq] at e; subst e; exact .non
  | _, _, x, .bl b, e => by simp only [toPy, Option.some.injEq] at e; subst e; exact .bl b
  | _, _, x, .int i, e => by simp only [toPy, Option.some.injEq] at e; subst e; exact .int i
  | _, _, x, .str s, e => by simp only [toPy, Option.some.injEq] at e; subst e; exact .str s
  | _, _, x, .tup (l := l) h r, e => by
    simp only [toPy] at e
    cases q : toPys l with
    | none => rw [q] at e; cases e
    | some xs => rw [q] at e; cases e; exact .tup h (Dens.dp r q)
  | _, _, x, .lst (l := l) f h r, e => by
    simp only [toPy] at e
    cases q : toPys l with
    | none => rw [q] at e; cases e
    | some xs => rw [q] at e; cases e; exact .lst (SqL.of h) (Dens.dp r q)
  | _, _, x, .scr h, e => by simp [toPy] at e
  | _, _, x, .scrK h, e => by simp [toPy] at e
  | _, _, x, .loc h, e => by simp [toPy] at e
  | _, _, x, .fn h, e => by simp [toPy] at e
  | _, _, x, .ty s, e => by simp [toPy] at e
theorem Dens.dp : ∀ {vs : List V} {l : List D} {xs : List PyData}, Dens B g H vs l → toPys l = some xs → DpAll B.K H vs xs
  | _, _, xs, .nil, e => by simp only [toPys, Option.some.injEq] at e; subst e; exact .nil
  | _, _, xs, .cons (d := d) (l := l) h r, e => by
    simp only [toPys] at e
    cases q1 : toPy d with
    | none => rw [q1] at e; cases e
    | some y =>
      cases q2 : toPys l with
      | none => rw [q1, q2] at e; cases e
      | some ys => rw [q1, q2] at e; cases e; exact .cons (Den.dp h q1) (Dens.dp r q2)
end
/-- data read, a list at a place too -/
theorem Den.py {v : V} {d : D} {x : PyData} (R : Rl B g m H) (h : Den B g H v d) (e : pyOf m d = some x) : Dp B.K H v x := by
  unfold pyOf top at e
  cases h with
  | @loc a n h =>
    simp only at e
    cases q : m[n]? with
    | none => simp [q, toPy] at e
    | some mo =>
      cases mo with
      | lst l' =>
        simp only [q, toPy] at e
        obtain ⟨xs, h1, h2⟩ := R.mem n a _ h q
        cases q2 : toPys l' with
        | none => rw [q2] at e; cases e
        | some ys => rw [q2] at e; cases e; exact .lst (SqL.of h1) (h2.dp q2)
      | _ => simp [q, toPy] at e
  | non => exact Den.dp (Den.non (g := g)) e
  | bl b => exact Den.dp (Den.bl (g := g) b) e
  | int b => exact Den.dp (Den.int (g := g) b) e
  | str b => exact Den.dp (Den.str (g := g) b) e
  | tup h r => exact Den.dp (.tup h r) e
  | lst f h r => exact Den.dp (.lst f h r) e
  | _ => simp [toPy] at e
end Z
/-! Z4: operators, comparisons. -/
namespace Z
open PySem PySem.Spec PyProof.Rows L2
variable {B : Bs} {G : Sg} {W : WE} {U : XW} {X : Cx} {g g' g1 g2 : Cfg} {H H' H1 H2 : Hp} {m m' m1 : Mem}

def rBin (B : Bs) (op : Operator) : R2 := fun x y H Q => ∃ g m d1 d2 d, Rl B g m H ∧ Den B g H x d1 ∧ Den B g H y d2 ∧ binD op m d1 d2 = some d ∧ FinF B g H Q d m
theorem cmul_of {i j : Int} (h : smallMul i j = true) : CMul i j := by
  unfold smallMul at h
  simp only [Bool.or_eq_true, Bool.and_eq_true, decide_eq_true_eq] at h
  exact h
theorem op_bin (cx : Ctx B X) : ∀ op : Operator, OpR X (binaryOp op) (rBin B op) := by
  intro op pins s σ H x y v u Q I rx ry h
  obtain ⟨g, m, d1, d2, d, R, h1, h2, e, q⟩ := h
  have lists : ∀ {l1 l2 : List D}, rdL m d1 = some l1 → rdL m d2 = some l2 → op = .Add → (if l1.length + l2.length ≤ sizeLine then some (D.lst (l1 ++ l2)) else none) = some d → wpAny (model X.prog X.w) X.A (binaryOp op v u) (EP X pins σ Q) X.xe s := by
    intro l1 l2 r1 r2 eo e1
    clear e
    have e := e1
    subst eo
    by_cases hz : l1.length + l2.length ≤ sizeLine
    · rw [if_pos hz] at e
      cases e
      obtain ⟨a, xs, e1, ha, hx⟩ := h1.rdL R r1
      obtain ⟨b, ys, e2, hb, hy⟩ := h2.rdL R r2
      exact op_cat pins s σ H x y v u Q I rx ry ⟨a, b, xs, ys, e1, e2, ha, hb, by rw [hx.length, hy.length]; exact hz, fun p hp => q.lst R hp (hx.append hy)⟩
    · rw [if_neg hz] at e; cases e
  have reps : ∀ {l1 : List D} {k : Int}, rdL m d1 = some l1 → d2 = .int k → op = .Mult → (if (decide (-(2 ^ 63) ≤ k) && decide (k < 2 ^ 63) && decide (l1.length * k.toNat ≤ sizeLine)) = true then some (D.lst (List.replicate k.toNat l1).flatten) else none) = some d →
      wpAny (model X.prog X.w) X.A (binaryOp op v u) (EP X pins σ Q) X.xe s := by
    intro l1 k r1 e2 eo e1
    clear e
    have e := e1
    subst eo e2
    split at e
    · rename_i hz
      simp only [Bool.and_eq_true, decide_eq_true_eq] at hz
      cases e
      obtain ⟨a, xs, e1, ha, hx⟩ := h1.rdL R r1
      cases h2
      exact op_rep pins s σ H x _ v u Q I rx ry ⟨a, k, xs, e1, rfl, ha, hz.1.1, hz.1.2, by rw [hx.length]; exact hz.2, fun p hp => q.lst R hp (hx.rep _)⟩
    · cases e
  cases op with
  | Add =>
    cases d1 with
    | int i =>
      cases d2 <;> simp [binD, rdL] at e
      subst e
      cases h1; cases h2
      exact op_add pins s σ H _ _ v u Q I rx ry ⟨_, _, rfl, rfl, q.flat R (by simp) (.int _)⟩
    | str i =>
      cases d2 <;> simp [binD, rdL] at e
      obtain ⟨hz, e⟩ := e
      subst e
      cases h1; cases h2
      exact op_add_str pins s σ H _ _ v u Q I rx ry ⟨_, _, rfl, rfl, hz, q.flat R (by simp) (.str _)⟩
    | tup l =>
      cases d2 with
      | tup k =>
        simp [binD] at e
        obtain ⟨hz, e⟩ := e
        subst e
        cases h1 with
        | @tup a xs _ ha hx =>
          cases h2 with
          | @tup b ys _ hb hy =>
            refine op_catA pins s σ H _ _ v u Q I rx ry ⟨a, b, xs, ys, rfl, rfl, by rw [cx.K]; exact ha, by rw [cx.K]; exact hb, by rw [hx.length, hy.length]; exact hz, fun e => ?_, fun _ e => ?_, fun _ _ p hp => ?_⟩
            · subst e
              cases hx
              exact q.flat R (by simp) (.tup hb hy)
            · subst e
              cases hy
              rw [List.append_nil] at q
              exact q.flat R (by simp) (.tup ha hx)
            · exact q.tup R hp (hx.append hy)
      | _ => simp [binD, rdL] at e
    | lst l =>
      cases d2 with
      | lst k => exact lists rfl rfl rfl (by simpa [binD, rdL] using e)
      | loc k =>
        simp only [binD] at e
        cases r2 : rdL m (.loc k) with
        | none => rw [r2] at e; simp [rdL] at e
        | some l2 => rw [r2] at e; exact lists rfl r2 rfl e
      | _ => simp [binD, rdL] at e
    | loc n =>
      simp only [binD] at e
      cases r1 : rdL m (.loc n) with
      | none => rw [r1] at e; simp at e
      | some l1 =>
        rw [r1] at e
        cases r2 : rdL m d2 with
        | none => rw [r2] at e; simp at e
        | some l2 => rw [r2] at e; exact lists r1 r2 rfl e
    | _ => cases d2 <;> simp [binD, rdL] at e
  | Sub =>
    cases d1 <;> cases d2 <;> simp [binD] at e
    subst e
    cases h1; cases h2
    exact op_sub pins s σ H _ _ v u Q I rx ry ⟨_, _, rfl, rfl, q.flat R (by simp) (.int _)⟩
  | Mult =>
    cases d2 with
    | int k =>
      cases d1 with
      | int i =>
        simp [binD] at e
        obtain ⟨hz, e⟩ := e
        subst e
        cases h1; cases h2
        exact op_mul pins s σ H _ _ v u Q I rx ry ⟨_, _, rfl, rfl, cmul_of hz, q.flat R (by simp) (.int _)⟩
      | tup l =>
        simp only [binD] at e
        split at e
        · rename_i hz
          simp only [Bool.and_eq_true, decide_eq_true_eq, Bool.not_eq_true', List.isEmpty_eq_false_iff] at hz
          cases e
          cases h2
          cases h1 with
          | @tup a xs _ ha hx =>
            refine op_repT pins s σ H _ _ v u Q I rx ry ⟨a, k, xs, rfl, rfl, by rw [cx.K]; exact ha, fun e => ?_, hz.1.1.1, hz.1.1.2, by rw [hx.length]; exact hz.1.2, fun p hp => q.tup R hp (hx.rep _)⟩
            subst e
            cases hx
            exact hz.2 rfl
        · cases e
      | lst l => exact reps rfl rfl rfl (by simpa [binD, rdL] using e)
      | loc n =>
        simp only [binD] at e
        cases r1 : rdL m (.loc n) with
        | none => rw [r1] at e; simp at e
        | some l1 => rw [r1] at e; exact reps r1 rfl rfl e
      | _ => simp [binD, rdL] at e
    | _ => cases d1 <;> simp [binD] at e
  | Mod =>
    cases d1 <;> cases d2 <;> simp [binD] at e
    obtain ⟨hz, e⟩ := e
    subst e
    cases h1; cases h2
    exact op_mod pins s σ H _ _ v u Q I rx ry ⟨_, _, rfl, rfl, hz, q.flat R (by simp) (.int _)⟩
  | FloorDiv =>
    cases d1 <;> cases d2 <;> simp [binD] at e
    obtain ⟨hz, e⟩ := e
    subst e
    cases h1; cases h2
    exact op_fdiv pins s σ H _ _ v u Q I rx ry ⟨_, _, rfl, rfl, hz, q.flat R (by simp) (.int _)⟩
  | Pow =>
    cases d1 <;> cases d2 <;> simp only [binD] at e <;> first | (cases e; done) | skip
    split at e
    · rename_i hz
      cases e
      cases h1; cases h2
      exact op_pow pins s σ H _ _ v u Q I rx ry ⟨_, _, rfl, rfl, hz, q.flat R (by simp) (.int _)⟩
    · cases e
  | _ => simp [binD] at e
theorem pf_bin (cx : Ctx B X) {op : Operator} {a b : Expr} {ca cb : Z.C} {pos : Pos} (ha : PE X a (tEv B G W ca)) (hb : PE X b (tEv B G W cb)) : PE X (.BinOp a op b pos) (tEvF B G W (.bin op ca cb)) := by
  refine peI (pe_op (op_bin cx op) ha hb) fun σ H Q ⟨g, m, e, R, E, p⟩ => ⟨g, m, e, R, E, ?_⟩
  unfold evalC at p
  refine p.bind.imp fun g1 m1 H1 d x R1 _ q v hv => ⟨g1, m1, e, R1, E.ext x R, ?_⟩
  refine q.bind.imp fun g2 m2 H2 d2 y R2 _ z w hw => ?_
  cases eo : binD op m2 d d2 with
  | none => rw [eo] at z; exact z.elim
  | some d3 =>
    rw [eo] at z
    exact ⟨g2, m2, d, d2, d3, R2, hv.ext y R1, hw, eo, z⟩
theorem pz_neg {a : Expr} {ca : Z.C} {pos : Pos} (ha : PE X a (tEv B G W ca)) : PE X (.UnaryOp .USub a pos) (tEv B G W (.neg ca)) := by
  refine peI (pe_un un_neg ha) fun σ H Q ⟨g, m, e, R, E, p⟩ => ⟨g, m, e, R, E, ?_⟩
  unfold evalC at p
  refine p.bind.imp fun g1 m1 H1 d x R1 _ q v hv => ?_
  obtain ⟨d', e', q⟩ := q.lifted
  cases d <;> simp [negD] at e'
  subst e'
  cases hv
  exact ⟨_, rfl, q g1 H1 (Ext.refl _ _) R1 _ (.int _)⟩

/-! ### comparisons -/
def rCmp (B : Bs) (op : CmpOp) : R2 := fun x y H Q => ∃ g m d1 d2 k, Rl B g m H ∧ Den B g H x d1 ∧ Den B g H y d2 ∧ cmpD op m d1 d2 = some k ∧ Q (.bl k) H
theorem isNone_iff {v : V} {d : D} (h : Den B g H v d) : decide (v = .non) = isNone d := by
  cases h <;> simp [isNone]
theorem one_sign {x : Str} (h : x.length = 1) : x = ⟨#[x.cps.getD 0 0]⟩ := by
  obtain ⟨⟨l⟩⟩ := x
  cases l with
  | nil => simp [Str.length] at h
  | cons c r =>
    cases r with
    | nil => rfl
    | cons d r => simp [Str.length] at h
/-- in, by data -/
theorem in_data (cx : Ctx B X) {pins : List (Addr × Obj)} {s : Shared} {σ : L2.St} {x y : V} {v u : Value} {d1 d2 : D} {k : Bool} (I : Inv X pins σ H s) (rx : RelV x v) (ry : RelV y u) (R : Rl B g m H)
    (h1 : Den B g H x d1) (h2 : Den B g H y d2) (e : inD m d1 d2 = some k) : (∀ Q : VK, Q (.bl k) H → wpAny (model X.prog X.w) X.A (compareOp .In v u) (EP X pins σ Q) X.xe s) ∧
      ∀ Q : VK, Q (.bl (!k)) H → wpAny (model X.prog X.w) X.A (compareOp .NotIn v u) (EP X pins σ Q) X.xe s := by
  have hu : X.A.units + 65 < cLine := by have := cx.un; omega
  unfold inD at e
  split at e
  · split at e
    · rename_i y' x'
      cases h1; cases h2
      split at e
      · rename_i hl
        cases e
        have hx := one_sign hl
        refine ⟨fun Q q => ?_, fun Q q => ?_⟩
        · exact op_in_sign pins s σ H _ _ v u Q I rx ry ⟨_, _, by rw [← hx], rfl, q⟩
        · exact op_notIn_sign pins s σ H _ _ v u Q I rx ry ⟨_, _, by rw [← hx], rfl, q⟩
      · cases e
    · cases e
  · split at e
    · rename_i a b ea eb
      split at e
      · rename_i hz
        simp only [Bool.and_eq_true] at hz
        cases e
        refine ⟨fun Q q => ?_, fun Q q => ?_⟩
        · exact op_inD hu pins s σ H x y v u Q I rx ry ⟨a, b, by rw [cx.K]; exact h1.py R ea, by rw [cx.K]; exact h2.py R eb, hz.1, hz.2, q⟩
        · exact op_notInD hu pins s σ H x y v u Q I rx ry ⟨a, b, by rw [cx.K]; exact h1.py R ea, by rw [cx.K]; exact h2.py R eb, hz.1, hz.2, q⟩
      · cases e
    · rename_i a b ea eb
      split at e
      · rename_i hz
        simp only [Bool.and_eq_true] at hz
        cases e
        obtain ⟨as, r1⟩ := Dp.reads I _ x v (by rw [cx.K]; exact h1.py R ea) rx
        obtain ⟨bs, r2⟩ := Dp.reads I _ y u (by rw [cx.K]; exact h2.py R eb) ry
        refine ⟨fun Q q => ?_, fun Q q => ?_⟩
        · exact SeqAt.in_tuple_reads r2 r1 (SeqAt.canLay_of_shaped hz.2) (SeqAt.canLay_of_shaped hz.1) (room_in_shaped hz.1 hu) ⟨.bl _, H, I, rfl, q⟩
        · exact SeqAt.notIn_tuple_reads r2 r1 (SeqAt.canLay_of_shaped hz.2) (SeqAt.canLay_of_shaped hz.1) (room_in_shaped hz.1 hu) ⟨.bl _, H, I, rfl, q⟩
      · cases e
    · cases e
theorem op_cmp (cx : Ctx B X) : ∀ op : CmpOp, OpR X (compareOp op) (rCmp B op) := by
  intro op pins s σ H x y v u Q I rx ry h
  obtain ⟨g, m, d1, d2, k, R, h1, h2, e, q⟩ := h
  have hu : X.A.units + 64 < cLine := by have := cx.un; omega
  cases op with
  | Eq =>
    simp only [cmpD, eqD] at e
    split at e
    · cases e
      cases h1
      cases h2
      exact op_eq pins s σ H _ _ v u Q I rx ry ⟨rfl, by simpa using q⟩
    · cases e
      cases h1
      cases h2
      exact op_eq pins s σ H _ _ v u Q I rx ry ⟨rfl, by simpa using q⟩
    · simp only [eqP] at e
      split at e
      · rename_i a b ea eb
        split at e
        · rename_i hz
          simp only [Bool.and_eq_true] at hz
          cases e
          exact op_eqD hu pins s σ H x y v u Q I rx ry ⟨a, b, by rw [cx.K]; exact h1.py R ea, by rw [cx.K]; exact h2.py R eb, hz.1, hz.2, q⟩
        · cases e
      · cases e
  | NotEq =>
    simp only [cmpD, eqD] at e
    split at e
    · cases e
      cases h1
      cases h2
      exact op_ne pins s σ H _ _ v u Q I rx ry ⟨rfl, by simpa using q⟩
    · cases e
      cases h1
      cases h2
      exact op_ne pins s σ H _ _ v u Q I rx ry ⟨rfl, by simpa using q⟩
    · simp only [eqP] at e
      split at e
      · rename_i a b ea eb
        split at e
        · rename_i hz
          simp only [Bool.and_eq_true] at hz
          cases e
          exact op_neD hu pins s σ H x y v u Q I rx ry ⟨a, b, by rw [cx.K]; exact h1.py R ea, by rw [cx.K]; exact h2.py R eb, hz.1, hz.2, q⟩
        · cases e
      · cases e
  | Lt =>
    cases d1 <;> cases d2 <;> simp [cmpD] at e
    subst e
    cases h1; cases h2
    exact op_lt pins s σ H _ _ v u Q I rx ry ⟨_, _, rfl, rfl, q⟩
  | LtE =>
    cases d1 <;> cases d2 <;> simp [cmpD] at e
    subst e
    cases h1; cases h2
    exact op_le pins s σ H _ _ v u Q I rx ry ⟨_, _, rfl, rfl, q⟩
  | Gt =>
    cases d1 <;> cases d2 <;> simp [cmpD] at e
    subst e
    cases h1; cases h2
    exact op_gt pins s σ H _ _ v u Q I rx ry ⟨_, _, rfl, rfl, q⟩
  | GtE =>
    cases d1 <;> cases d2 <;> simp [cmpD] at e
    subst e
    cases h1; cases h2
    exact op_ge pins s σ H _ _ v u Q I rx ry ⟨_, _, rfl, rfl, q⟩
  | Is =>
    cases d2 <;> simp [cmpD] at e
    subst e
    cases h2
    exact op_isN pins s σ H _ _ v u Q I rx ry ⟨rfl, by rw [isNone_iff h1]; exact q⟩
  | IsNot =>
    cases d2 <;> simp only [cmpD] at e <;> first | (cases e; done) | skip
    cases e
    cases h2
    exact op_notN pins s σ H _ _ v u Q I rx ry ⟨rfl, by rw [isNone_iff h1]; exact q⟩
  | In => exact (in_data cx I rx ry R h1 h2 e).1 Q q
  | NotIn =>
    simp only [cmpD] at e
    cases ei : inD m d1 d2 with
    | none => rw [ei] at e; cases e
    | some b =>
      rw [ei] at e
      cases e
      exact (in_data cx I rx ry R h1 h2 ei).2 Q q
theorem pz_cmp (cx : Ctx B X) {op : CmpOp} {a b : Expr} {ca cb : Z.C} {pos : Pos} (ha : PE X a (tEv B G W ca)) (hb : PE X b (tEv B G W cb)) (hm : behindInMarks op b = false) : PE X (.Compare a [op] [b] pos) (tEv B G W (.cmp op ca cb)) := by
  refine peI (pe_cmpR (op_cmp cx op) ha hb hm) fun σ H Q ⟨g, m, e, R, E, p⟩ => ⟨g, m, e, R, E, ?_⟩
  unfold evalC at p
  refine p.bind.imp fun g1 m1 H1 d x R1 _ q v hv => ⟨g1, m1, e, R1, E.ext x R, ?_⟩
  refine q.bind.imp fun g2 m2 H2 d2 y R2 _ z w hw => ?_
  obtain ⟨k, ek, z⟩ := z.lifted
  obtain ⟨k', ek', e2⟩ := Option.map_eq_some_iff.mp ek
  subst e2
  exact ⟨g2, m2, d, d2, k', R2, hv.ext y R1, hw, ek', z g2 H2 (Ext.refl _ _) R2 _ (.bl _)⟩
theorem pz_chn (cx : Ctx B X) {op op2 : CmpOp} {a b c : Expr} {ca cb cc : Z.C} {pos : Pos} (ha : PE X a (tEv B G W ca)) (hb : PE X b (tEv B G W cb)) (hc : PE X c (tEv B G W cc)) (hm : lastMarks [op, op2] [b, c] = false) :
    PE X (.Compare a [op, op2] [b, c] pos) (tEv B G W (.chn op op2 ca cb cc)) := by
  refine peI (pe_chain (op_cmp cx op) (op_cmp cx op2) ha hb hc hm) fun σ H Q ⟨g, m, e, R, E, p⟩ => ⟨g, m, e, R, E, ?_⟩
  unfold evalC at p
  refine p.bind.imp fun g1 m1 H1 d x R1 _ q v hv => ⟨g1, m1, e, R1, E.ext x R, ?_⟩
  refine q.bind.imp fun g2 m2 H2 d2 y R2 _ z w hw => ?_
  obtain ⟨k, ek, z⟩ := z.bind.lifted
  have z := z g2 H2 (Ext.refl _ _) R2
  refine ⟨g2, m2, d, d2, k, R2, hv.ext y R1, hw, ek, k, rfl, ?_⟩
  cases k with
  | false =>
    rw [if_neg Bool.false_ne_true] at z ⊢
    exact z.ok0 R2 _ (.bl _)
  | true =>
    rw [if_pos rfl] at z ⊢
    refine ⟨g2, m2, e, R2, (E.ext x R).ext y R1, z.bind.imp fun g3 m3 H3 d3 y3 R3 _ z v3 h3 => ?_⟩
    obtain ⟨k, ek, z⟩ := z.lifted
    obtain ⟨k', ek', e2⟩ := Option.map_eq_some_iff.mp ek
    subst e2
    exact ⟨g3, m3, d2, d3, k', R3, hw.ext y3 R2, h3, ek', z g3 H3 (Ext.refl _ _) R3 _ (.bl _)⟩

/-! ### tests -/
theorem asBl_post {R : Cfg → Mem → Hp → Bool → Prop} {d : D} (h : Post B g H U R (asBl d m)) : ∃ k, d = .bl k ∧ ∀ g' H', Ext g H g' H' → Rl B g' m H' → R g' m H' k := by
  cases d with
  | bl k => exact ⟨k, rfl, h⟩
  | _ => exact h.elim
/-- a value that is a truth, as a test -/
theorem tz_val {a : Expr} {ca : Z.C} (h : PE X a (tEv B G W ca)) (he : ∀ whole, isTrue a X.env whole = (do let v ← whole; standAt a.pos; holding [v] (truthy v))) : PT X a (tEvT B G W ca) := by
  refine ptI (pt_val h he) fun σ H Q ⟨g, m, e, R, E, p⟩ => ⟨g, m, e, R, E, ?_⟩
  refine (show Post B g H _ _ ((evalC G ca e m).bind fun d m => asBl d m) from p).bind.imp fun g1 m1 H1 d x R1 _ q v hv => ?_
  obtain ⟨k, rfl, q⟩ := asBl_post q
  cases hv
  exact ⟨k, rfl, q g1 H1 (Ext.refl _ _) R1⟩
theorem tz_cmp (cx : Ctx B X) {op : CmpOp} {a b : Expr} {ca cb : Z.C} {pos : Pos} (ha : PE X a (tEv B G W ca)) (hb : PE X b (tEv B G W cb)) (hm : behindInMarks op b = false) : PT X (.Compare a [op] [b] pos) (tEvT B G W (.cmp op ca cb)) := by
  refine ptI (pt_cmpR (op_cmp cx op) ha hb hm) fun σ H Q ⟨g, m, e, R, E, p⟩ => ⟨g, m, e, R, E, ?_⟩
  unfold evalT evalC at p
  refine p.bind.bind.imp fun g1 m1 H1 d x R1 _ q v hv => ⟨g1, m1, e, R1, E.ext x R, ?_⟩
  refine q.bind.imp fun g2 m2 H2 d2 y R2 _ z w hw => ?_
  obtain ⟨k, ek, z⟩ := z.lifted
  obtain ⟨k', ek', e2⟩ := Option.map_eq_some_iff.mp ek
  subst e2
  exact ⟨g2, m2, d, d2, k', R2, hv.ext y R1, hw, ek', k', rfl, (z g2 H2 (Ext.refl _ _) R2).ok0 R2⟩
theorem tz_chn (cx : Ctx B X) {op op2 : CmpOp} {a b c : Expr} {ca cb cc : Z.C} {pos : Pos} (ha : PE X a (tEv B G W ca)) (hb : PE X b (tEv B G W cb)) (hc : PE X c (tEv B G W cc)) (hm : lastMarks [op, op2] [b, c] = false) :
    PT X (.Compare a [op, op2] [b, c] pos) (tEvT B G W (.chn op op2 ca cb cc)) := by
  refine ptI (pt_chain (op_cmp cx op) (op_cmp cx op2) ha hb hc hm) fun σ H Q ⟨g, m, e, R, E, p⟩ => ⟨g, m, e, R, E, ?_⟩
  unfold evalT evalC at p
  refine p.bind.bind.imp fun g1 m1 H1 d x R1 _ q v hv => ⟨g1, m1, e, R1, E.ext x R, ?_⟩
  refine q.bind.imp fun g2 m2 H2 d2 y R2 _ z w hw => ?_
  obtain ⟨k, ek, z⟩ := z.bind.lifted
  have z := z g2 H2 (Ext.refl _ _) R2
  refine ⟨g2, m2, d, d2, k, R2, hv.ext y R1, hw, ek, k, rfl, ?_⟩
  cases k with
  | false =>
    rw [if_neg Bool.false_ne_true] at z ⊢
    exact ⟨false, rfl, (z.ok0 R2).ok0 R2⟩
  | true =>
    rw [if_pos rfl] at z ⊢
    refine ⟨g2, m2, e, R2, (E.ext x R).ext y R1, z.bind.imp fun g3 m3 H3 d3 y3 R3 _ z v3 h3 => ?_⟩
    obtain ⟨k, ek, z⟩ := z.lifted
    obtain ⟨k', ek', e2⟩ := Option.map_eq_some_iff.mp ek
    subst e2
    exact ⟨g3, m3, d2, d3, k', R3, hw.ext y3 R2, h3, ek', k', rfl, (z g3 H3 (Ext.refl _ _) R3).ok0 R3⟩
end Z
/-! Z5: and, or, not, if; parts; built-in functions. -/
namespace Z
open PySem PySem.Spec PyProof.Rows L2
variable {B : Bs} {G : Sg} {W : WE} {U : XW} {X : Cx} {g g' g1 g2 : Cfg} {H H' H1 H2 : Hp} {m m' m1 : Mem}

theorem pz_and {a b : Expr} {rest : List Expr} {ca cb : Z.C} {pos : Pos} (ha : PE X a (tEv B G W ca)) (hb : PE X (.BoolOp .And (b :: rest) pos) (tEv B G W cb)) : PE X (.BoolOp .And (a :: b :: rest) pos) (tEv B G W (.and ca cb)) := by
  refine peI (pe_and ha hb) fun σ H Q ⟨g, m, e, R, E, p⟩ => ⟨g, m, e, R, E, ?_⟩
  unfold evalC at p
  refine p.bind.imp fun g1 m1 H1 d x R1 _ q v hv => ?_
  obtain ⟨k, rfl, q2⟩ := asBl_post q.bind
  cases hv
  have q := q2 g1 H1 (Ext.refl _ _) R1
  refine ⟨k, rfl, ?_⟩
  cases k with
  | false =>
    rw [if_neg Bool.false_ne_true] at q ⊢
    exact q.ok0 R1 _ (.bl _)
  | true =>
    rw [if_pos rfl] at q ⊢
    exact ⟨g1, m1, e, R1, E.ext x R, q⟩
theorem pz_or {a b : Expr} {rest : List Expr} {ca cb : Z.C} {pos : Pos} (ha : PE X a (tEv B G W ca)) (hb : PE X (.BoolOp .Or (b :: rest) pos) (tEv B G W cb)) : PE X (.BoolOp .Or (a :: b :: rest) pos) (tEv B G W (.or ca cb)) := by
  refine peI (pe_or ha hb) fun σ H Q ⟨g, m, e, R, E, p⟩ => ⟨g, m, e, R, E, ?_⟩
  unfold evalC at p
  refine p.bind.imp fun g1 m1 H1 d x R1 _ q v hv => ?_
  obtain ⟨k, rfl, q2⟩ := asBl_post q.bind
  cases hv
  have q := q2 g1 H1 (Ext.refl _ _) R1
  refine ⟨k, rfl, ?_⟩
  cases k with
  | true =>
    rw [if_pos rfl] at q ⊢
    exact q.ok0 R1 _ (.bl _)
  | false =>
    rw [if_neg Bool.false_ne_true] at q ⊢
    exact ⟨g1, m1, e, R1, E.ext x R, q⟩
theorem pz_one {a : Expr} {op : BoolOp} {ca : Z.C} {pos : Pos} (ha : PE X a (tEv B G W ca)) : PE X (.BoolOp op [a] pos) (tEv B G W ca) := pe_one ha
theorem pz_not {a : Expr} {ca : Z.C} {pos : Pos} (ha : PE X a (tEv B G W ca)) : PE X (.UnaryOp .Not a pos) (tEv B G W (.not ca)) := by
  refine peI (pe_not ha) fun σ H Q ⟨g, m, e, R, E, p⟩ => ⟨g, m, e, R, E, ?_⟩
  unfold evalC at p
  refine p.bind.imp fun g1 m1 H1 d x R1 _ q v hv => ?_
  obtain ⟨k, rfl, q2⟩ := asBl_post q.bind
  cases hv
  have q3 := q2 g1 H1 (Ext.refl _ _) R1
  exact ⟨k, rfl, q3 g1 H1 (Ext.refl _ _) R1 _ (.bl _)⟩
theorem tz_and {a b : Expr} {rest : List Expr} {ca cb : Z.C} {pos : Pos} (ha : PT X a (tEvT B G W ca)) (hb : PW X (.BoolOp .And (b :: rest) pos) (tEvT B G W cb)) : PW X (.BoolOp .And (a :: b :: rest) pos) (tEvT B G W (.and ca cb)) := by
  refine ⟨fun wh pins s σ H Q I h => (pw_and ha hb).run wh pins s σ H Q I ?_⟩
  obtain ⟨g, m, e, R, E, p⟩ := h
  refine ⟨g, m, e, R, E, ?_⟩
  unfold evalT evalC at p
  refine (show Post B g H _ _ (evalT G ca e m) from ?_)
  unfold evalT
  cases h1 : evalC G ca e m with
  | bad => rw [h1] at p; exact p
  | exc x m' => rw [h1] at p; exact p
  | ok d m1 =>
    rw [h1] at p
    cases d with
    | bl k =>
      intro g1 H1 x R1
      have p := Post.ext x p
      cases k with
      | false => exact (show Post B g1 H1 _ _ (((Out.ok (D.bl false) m1).bind fun d m => asBl d m)) from p).ok0 R1
      | true => exact ⟨g1, m1, e, R1, E.ext x R, p⟩
    | _ => exact p
theorem tz_or {a b : Expr} {rest : List Expr} {ca cb : Z.C} {pos : Pos} (ha : PT X a (tEvT B G W ca)) (hb : PW X (.BoolOp .Or (b :: rest) pos) (tEvT B G W cb)) : PW X (.BoolOp .Or (a :: b :: rest) pos) (tEvT B G W (.or ca cb)) := by
  refine ⟨fun wh pins s σ H Q I h => (pw_or ha hb).run wh pins s σ H Q I ?_⟩
  obtain ⟨g, m, e, R, E, p⟩ := h
  refine ⟨g, m, e, R, E, ?_⟩
  unfold evalT evalC at p
  refine (show Post B g H _ _ (evalT G ca e m) from ?_)
  unfold evalT
  cases h1 : evalC G ca e m with
  | bad => rw [h1] at p; exact p
  | exc x m' => rw [h1] at p; exact p
  | ok d m1 =>
    rw [h1] at p
    cases d with
    | bl k =>
      intro g1 H1 x R1
      have p := Post.ext x p
      cases k with
      | true => exact (show Post B g1 H1 _ _ (((Out.ok (D.bl true) m1).bind fun d m => asBl d m)) from p).ok0 R1
      | false => exact ⟨g1, m1, e, R1, E.ext x R, p⟩
    | _ => exact p
theorem tw_and1 {a : Expr} {ca : Z.C} {pos : Pos} (ha : PT X a (tEvT B G W ca)) : PW X (.BoolOp .And [a] pos) (tEvT B G W ca) := pw_and1 ha
theorem tw_or1 {a : Expr} {ca : Z.C} {pos : Pos} (ha : PT X a (tEvT B G W ca)) : PW X (.BoolOp .Or [a] pos) (tEvT B G W ca) := pw_or1 ha
theorem tz_not {a : Expr} {ca : Z.C} {pos : Pos} (ha : PT X a (tEvT B G W ca)) : PT X (.UnaryOp .Not a pos) (tEvT B G W (.not ca)) := by
  refine ptI (pt_not ha) fun σ H Q ⟨g, m, e, R, E, p⟩ => ⟨g, m, e, R, E, ?_⟩
  unfold evalT evalC at p
  unfold evalT
  cases h1 : evalC G ca e m with
  | bad => rw [h1] at p; exact p
  | exc x m' => rw [h1] at p; exact p
  | ok d m1 =>
    rw [h1] at p
    cases d with
    | bl k => exact p
    | _ => exact p
theorem pz_ite {t a b : Expr} {ct ca cb : Z.C} {pos : Pos} (ht : PT X t (tEvT B G W ct)) (ha : PE X a (tEv B G W ca)) (hb : PE X b (tEv B G W cb)) : PE X (.IfExp t a b pos) (tEv B G W (.ite ct ca cb)) := by
  refine peI (pe_ifExp ht ha hb) fun σ H Q ⟨g, m, e, R, E, p⟩ => ⟨g, m, e, R, E, ?_⟩
  unfold evalC at p
  unfold evalT
  cases h1 : evalC G ct e m with
  | bad => rw [h1] at p; exact p
  | exc x m' => rw [h1] at p; exact p
  | ok d m1 =>
    rw [h1] at p
    cases d with
    | bl k =>
      intro g1 H1 x R1
      have p := Post.ext x p
      cases k with
      | true => exact ⟨g1, m1, e, R1, E.ext x R, p⟩
      | false => exact ⟨g1, m1, e, R1, E.ext x R, p⟩
    | _ => exact p

/-! ### parts -/
theorem atI_den {vs : List V} {l : List D} {k : Int} {d : D} (h : Dens B g H vs l) (e : atI l k = some d) : ∃ v, atI vs k = some v ∧ Den B g H v d := by
  unfold atI at e ⊢
  rw [h.length]
  cases q : ixN l.length k with
  | none => rw [q] at e; cases e
  | some j =>
    rw [q] at e
    obtain ⟨v, h1, h2⟩ := h.get (i := j) (by simpa using e)
    exact ⟨v, by simpa using h1, h2⟩
theorem getK_den {ks : List (Key × V)} {kvs : List (Key × D)} {k : Key} {d : D} (h : Paired (fun (p : Key × V) (q : Key × D) => p.1 = q.1 ∧ Den B g H p.2 q.2) ks kvs) (e : getK kvs k = some d) : ∃ v, valV ks k = some v ∧ Den B g H v d := by
  induction h with
  | nil => simp [getK] at e
  | @cons p q ps qs h t ih =>
    obtain ⟨h1, h2⟩ := h
    by_cases hk : q.1 = k
    · have e1 : getK (q :: qs) k = some q.2 := by simp [getK, List.find?_cons, hk]
      rw [e1] at e
      cases e
      exact ⟨p.2, valV_pos (h1.trans hk), h2⟩
    · have e1 : getK (q :: qs) k = getK qs k := by simp [getK, List.find?_cons, hk]
      rw [e1] at e
      rw [valV_neg (fun z => hk (h1.symm.trans z))]
      exact ih e
/-- one part: of a list, a tuple, a dict by texts -/
def rSub (B : Bs) : R2 := fun x y H Q => ∃ g m d1 d2 d, Rl B g m H ∧ Den B g H x d1 ∧ Den B g H y d2 ∧ subD m d1 d2 = some d ∧ ∀ v, Den B g H v d → Q v H
theorem ix_dict (hu : X.A.units + 1 < cLine) : IxR X (fun x y H Q => ∃ a v, x = .ref a ∧ DGet H a y (some v) ∧ Q v H) := by
  intro value slice pins s σ H x y v u Q I rx ry h hs
  obtain ⟨a, w', rfl, dg, q⟩ := h
  cases rx
  exact tail_any (dict_typeIs I dg) PySem.F.slot_dict_getitem.lookup (d_getItem hu I dg ry fun r s' I' rr => ⟨w', H, I', rr, q⟩) hs
theorem plainL (hK : X.K = B.K) {a : Addr} {xs : List V} (h : SqL B.K H a xs) : SqL X.K H a xs := by rw [hK]; exact h
theorem plainT (hK : X.K = B.K) {a : Addr} {xs : List V} (h : SqT B.K H a xs) : SqT X.K H a xs := by rw [hK]; exact h
theorem ix_sub (cx : Ctx B X) : IxR X (rSub B) := by
  intro value slice pins s σ H x y v u Q I rx ry h hs
  obtain ⟨g, m, d1, d2, d, R, h1, h2, e, q⟩ := h
  have hu : X.A.units + 1 < cLine := by have := cx.un; omega
  cases d2 with
  | int k =>
    simp only [subD] at e
    cases h2
    cases q1 : rdS m d1 with
    | none => rw [q1] at e; cases e
    | some p =>
      obtain ⟨b, l⟩ := p
      rw [q1] at e
      obtain ⟨a, xs, e1, hx, hl, ht⟩ := h1.rdS R q1
      obtain ⟨w', e2, hw⟩ := atI_den hx e
      cases b with
      | true => exact ix_list value slice pins s σ H x _ v u Q I rx ry ⟨a, xs, k, w', e1, rfl, plainL cx.K (hl rfl), e2, q w' hw⟩ hs
      | false => exact ix_tup value slice pins s σ H x _ v u Q I rx ry ⟨a, xs, k, w', e1, rfl, plainT cx.K (ht rfl), e2, q w' hw⟩ hs
  | str z =>
    cases h2
    cases d1 with
    | loc n =>
      simp only [subD] at e
      cases h1 with
      | @loc a _ ha =>
        cases q1 : m[n]? with
        | none => rw [q1] at e; cases e
        | some mo =>
          cases mo with
          | dk kvs =>
            rw [q1] at e
            obtain ⟨ks, k1, k2⟩ := R.mem n a _ ha q1
            obtain ⟨w', e2, hw⟩ := getK_den k2 e
            exact ix_dict hu value slice pins s σ H _ _ v u Q I rx ry ⟨a, w', rfl, by rw [← e2]; exact DGet.k (k := Sum.inr z) k1, q w' hw⟩ hs
          | _ => rw [q1] at e; cases e
    | _ => simp [subD] at e
  | _ => simp [subD] at e
theorem pz_sub (cx : Ctx B X) {a b : Expr} {ca cb : Z.C} {pos : Pos} (ha : PE X a (tEv B G W ca)) (hb : PE X b (tEv B G W cb)) (hs : PlainIx b) : PE X (.Subscript a b pos) (tEv B G W (.sub ca cb)) := by
  refine peI (pe_ix (ix_sub cx) ha hb hs) fun σ H Q ⟨g, m, e, R, E, p⟩ => ⟨g, m, e, R, E, ?_⟩
  unfold evalC at p
  refine p.bind.imp fun g1 m1 H1 d x R1 _ q v hv => ⟨g1, m1, e, R1, E.ext x R, ?_⟩
  refine q.bind.imp fun g2 m2 H2 d2 y R2 _ z w hw => ?_
  obtain ⟨k, ek, z⟩ := z.lifted
  exact ⟨g2, m2, d, d2, k, R2, hv.ext y R1, hw, ek, z g2 H2 (Ext.refl _ _) R2⟩

/-! ### cuts -/
def tCo (B : Bs) (G : Sg) (W : WE) (c : Co) : TO := fun σ H Q => ∃ g m e, Rl B g m H ∧ EnvR B g H σ e ∧ Post B g H (W σ e) (fun g' m' H' o => Q o H') (evalCo G c e m)
theorem poI {e : Option Expr} {t t' : TO} (h : PO X e t) (i : ∀ σ H Q, t' σ H Q → t σ H Q) : PO X e t' := ⟨fun pins s σ H Q I q => h.run pins s σ H Q I (i σ H Q q)⟩
theorem oz_none : PO X none (tCo B G W .none) := by
  refine poI po_none fun σ H Q ⟨g, m, e, R, E, p⟩ => ?_
  unfold evalCo at p
  exact p.ok0 R
theorem oz_some {a : Expr} {ca : Z.C} (ha : PE X a (tEv B G W ca)) : PO X (some a) (tCo B G W (.some ca)) := by
  refine poI (po_some ha) fun σ H Q ⟨g, m, e, R, E, p⟩ => ⟨g, m, e, R, E, ?_⟩
  unfold evalCo at p
  refine p.bind.imp fun g1 m1 H1 d x R1 _ q v hv => ?_
  cases d with
  | int i => cases hv; exact ⟨i, rfl, q.ok0 R1⟩
  | _ => exact q.elim
theorem cutV_den {vs : List V} {l : List D} (h : Dens B g H vs l) (lo hi : Option Int) : Dens B g H (cutV vs lo hi) ((l.drop (HT.sIx l.length 0 lo)).take (HT.sIx l.length l.length hi - HT.sIx l.length 0 lo)) := by
  unfold cutV
  rw [h.length]
  exact (h.drop _).take _
def rCut (B : Bs) : V → Option Int → Option Int → Hp → VK → Prop := fun x lo hi H Q => ∃ g m d1 d, Rl B g m H ∧ Den B g H x d1 ∧ cutD m d1 lo hi = some d ∧ FinF B g H Q d m
theorem sl_cut (cx : Ctx B X) : SlR X (rCut B) := by
  intro pins s σ H x v vl vu lo hi sl Q I rx hs pl pu h
  obtain ⟨g, m, d1, d, R, h1, e, q⟩ := h
  unfold cutD at e
  cases q1 : rdS m d1 with
  | none => rw [q1] at e; cases e
  | some p =>
    obtain ⟨b, l⟩ := p
    rw [q1] at e
    obtain ⟨a, xs, e1, hx, hl, ht⟩ := h1.rdS R q1
    cases b with
    | true =>
      cases e
      exact sl_list pins s σ H x v vl vu lo hi sl Q I rx hs pl pu ⟨a, xs, e1, plainL cx.K (hl rfl), fun p hp => q.lst R hp (cutV_den hx lo hi)⟩
    | false =>
      cases e
      refine sl_tupA pins s σ H x v vl vu lo hi sl Q I rx hs pl pu ⟨a, xs, e1, plainT cx.K (ht rfl), fun hw => ?_, fun _ p hp => q.tup R hp (cutV_den hx lo hi)⟩
      rw [hx.length] at hw
      rw [hw.1, hw.2, List.drop_zero, Nat.sub_zero, List.take_length] at q
      exact q.flat R (by simp) (.tup (ht rfl) hx)
theorem pf_cut (cx : Ctx B X) {a : Expr} {lo hi : Option Expr} {ca : Z.C} {cl ch : Co} {p2 pos : Pos} (ha : PE X a (tEv B G W ca)) (hl : PO X lo (tCo B G W cl)) (hh : PO X hi (tCo B G W ch)) :
    PE X (.Subscript a (.Slice lo hi none p2) pos) (tEvF B G W (.cut ca cl ch)) := by
  refine peI (pe_slice (sl_cut cx) ha hl hh) fun σ H Q ⟨g, m, e, R, E, p⟩ => ⟨g, m, e, R, E, ?_⟩
  unfold evalC at p
  refine p.bind.imp fun g1 m1 H1 d x R1 _ q v hv => ⟨g1, m1, e, R1, E.ext x R, ?_⟩
  refine q.bind.imp fun g2 m2 H2 l y R2 _ z => ⟨g2, m2, e, R2, (E.ext x R).ext y R1, ?_⟩
  refine z.bind.imp fun g3 m3 H3 h y3 R3 _ z => ?_
  cases eo : cutD m3 d l h with
  | none => rw [eo] at z; exact z.elim
  | some d3 =>
    rw [eo] at z
    exact ⟨g3, m3, d, d3, R3, (hv.ext y R1).ext y3 R2, eo, z⟩
/-- xs[::-1], t[::-1] -/
theorem pf_revL (cx : Ctx B X) {a : Expr} {ca : Z.C} {k : Nat} {p1 p2 p3 pos : Pos} (ha : PE X a (tEv B G W ca))
    (ht : PE X (.Subscript a (.Slice none none (some (.UnaryOp .USub (.Constant (.int 1) k p1) p2)) p3) pos) (fun σ H Q => tEv B G W ca σ H fun x H1 => ∃ p xs, x = .ref p ∧
      ((SqL X.K H1 p xs ∧ ∀ q, H1 q = none → Q (.ref q) (upd H1 q (.lst xs.reverse))) ∨ (SqT X.K H1 p xs ∧ ∀ q, H1 q = none → Q (.ref q) (upd H1 q (.tup xs.reverse)))))) :
    PE X (.Subscript a (.Slice none none (some (.UnaryOp .USub (.Constant (.int 1) k p1) p2)) p3) pos) (tEvF B G W (.rev ca)) := by
  refine peI ht fun σ H Q ⟨g, m, e, R, E, p⟩ => ⟨g, m, e, R, E, ?_⟩
  unfold evalC at p
  refine p.bind.imp fun g1 m1 H1 d x R1 _ q v hv => ?_
  cases eo : revD m1 d with
  | none => rw [eo] at q; exact q.elim
  | some d3 =>
    rw [eo] at q
    unfold revD at eo
    cases q1 : rdS m1 d with
    | none => rw [q1] at eo; cases eo
    | some p =>
      obtain ⟨b, l⟩ := p
      rw [q1] at eo
      obtain ⟨a, xs, e1, hx, hl, ht⟩ := hv.rdS R1 q1
      cases b with
      | true =>
        cases eo
        exact ⟨a, xs, e1, .inl ⟨plainL cx.K (hl rfl), fun p hp => FinF.lst R1 q hp hx.reverse⟩⟩
      | false =>
        cases eo
        exact ⟨a, xs, e1, .inr ⟨plainT cx.K (ht rfl), fun p hp => FinF.tup R1 q hp hx.reverse⟩⟩
end Z
/-! Z6: t[::-1]; repr of data; isinstance; the built-in functions that are served. -/
namespace Z
open PySem PySem.Spec PyProof.Rows L2
variable {B : Bs} {G : Sg} {W : WE} {U : XW} {X : Cx} {g g' g1 g2 : Cfg} {H H' H1 H2 : Hp} {m m' m1 : Mem}

/-! ### t[::-1] -/
section
variable {prog : Program} {w : World} {A : Around} {E : Value → Shared → Prop} {s : Shared}
theorem places_back (n : Nat) : Builtin.Slice.slicePlaces ((n : Int) - 1) (-1) (-1) = n := by
  unfold Builtin.Slice.slicePlaces
  have h : ¬ ((-1 : Int) > 0) := by decide
  rw [if_neg h]
  by_cases z : (n : Int) - 1 > -1
  · rw [if_pos z, show (- -1 : Int) = 1 by decide, Int.ediv_one]; omega
  · rw [if_neg z]; omega
theorem applied_back {sl : Addr} {vs : Value} {n : Nat} {Q : Int × Int × Nat → Shared → Prop} (hs : s.heap.IsSliceOf sl .none .none vs) (p : IsPart vs (some (-1)))
    (h : Q ((n : Int) - 1, -1, n) s) : wpAny (model prog w) A (Builtin.Slice.sliceApplied (.ref sl) (pure (n : Int))) Q E s := by
  obtain ⟨o, e1, e2, e3⟩ := id hs
  unfold Builtin.Slice.sliceApplied Builtin.Slice.sliceFields
  have f0 : ∀ {R : Value → Shared → Prop}, R .none s → wpAny (model prog w) A (field (.ref sl) 0) R E s := fun r => wpAny_field e1 e3 rfl r
  have f1 : ∀ {R : Value → Shared → Prop}, R .none s → wpAny (model prog w) A (field (.ref sl) 1) R E s := fun r => wpAny_field e1 e3 rfl r
  have f2 : ∀ {R : Value → Shared → Prop}, R vs s → wpAny (model prog w) A (field (.ref sl) 2) R E s := fun r => wpAny_field e1 e3 rfl r
  refine wpAny_bind (wpAny_bind (f0 (wpAny_bind (f1 (wpAny_bind (f2 (wpAny_pure ?_)))))))
  refine wpAny_bind (HT.slicePart_ p ?_)
  show wpAny _ _ (if ((-1 : Int) == 0) = true then _ else _) _ _ s
  rw [if_neg (by decide)]
  refine wpAny_bind (slicePart_none (wpAny_bind (slicePart_none (wpAny_bind (wpAny_pure ?_)))))
  show wpAny _ _ (pure ((n : Int) - 1, (-1 : Int), Builtin.Slice.slicePlaces ((n : Int) - 1) (-1) (-1))) _ _ s
  rw [places_back]
  exact wpAny_pure h
theorem fmap_congr {α β : Type} {f k : α → Option β} : ∀ {l : List α}, (∀ a ∈ l, f a = k a) → l.filterMap f = l.filterMap k
  | [], _ => rfl
  | a :: l, h => by
    rw [List.filterMap_cons, List.filterMap_cons, h a List.mem_cons_self, fmap_congr fun b hb => h b (List.mem_cons_of_mem _ hb)]
theorem pick_back (xs : Array Value) : ((List.range xs.size).filterMap fun (k : Nat) => xs[((xs.size : Int) - 1 + (k : Int) * -1).toNat]?).toArray = xs.toList.reverse.toArray := by
  congr 1
  have e : ((List.range xs.size).filterMap fun (k : Nat) => xs[((xs.size : Int) - 1 + (k : Int) * -1).toNat]?) = ((List.range xs.size).map fun k => xs.size - 1 - k).filterMap (xs[·]?) := by
    rw [List.filterMap_map]
    apply fmap_congr
    intro k hk
    have := List.mem_range.mp hk
    show xs[((xs.size : Int) - 1 + (k : Int) * -1).toNat]? = xs[xs.size - 1 - k]?
    rw [show ((xs.size : Int) - 1 + (k : Int) * -1).toNat = xs.size - 1 - k by omega]
  rw [e, PySem.W.krv_range, List.filterMap_reverse, PySem.W.krv_all]
theorem tuple_back {t sl : Addr} {items : Array Value} {vs : Value} {Q : Value → Shared → Prop} (ht : IsTup s.heap t items) (hs : s.heap.IsSliceOf sl .none .none vs) (p : IsPart vs (some (-1)))
    (h : Q (.ref s.heap.objs.size) { s with heap := s.heap.push { cls := .type "tuple", data := .seq items.toList.reverse.toArray } }) (hz : items.size ≤ sizeLine) :
    wpAny (model prog w) A (getItem (.ref t) (.ref sl)) Q E s := by
  have fit : sizeOk (.seq items.toList.reverse.toArray) := by
    show items.toList.reverse.toArray.size ≤ sizeLine
    rw [List.size_toArray, List.length_reverse, Array.length_toList]; exact hz
  obtain ⟨o, e1, e2, e3⟩ := id hs
  have ty : s.TypeIs (.ref sl) "slice" := ⟨o, e1, e2⟩
  unfold getItem
  (try with_reducible refine wpAny_holding ?_); (first | refine wpAny_bind (wpAny_pure ?_) | skip)
  refine wpAny_bind (wpAny_sequenceKey ht.typeIs (by decide) (wpAny_bind (wpAny_callSpecial?_slot (name := Str.ofString "__getitem__") ht.typeIs PyProof.Rows.slot_tuple_getitem (wpAny_call_entry PyProof.Rows.slot_tuple_getitem ht.typeIs entry_tuple_getitem ?_ (args_tuple_getitem _ _)))))
  show wpAny _ _ (Builtin.Tuple.tupleItemsOf (.ref t) >>= _) _ _ s; refine wpAny_bind (tupleItemsOf_ ht (wpAny_bind (wpAny_typeOf ty ?_)))
  rw [if_pos (by decide)]; refine wpAny_bind (applied_back hs p ?_)
  have no : ¬ (((items.size : Int) - 1 == 0 && (-1 : Int) == 1 && items.size == items.size) = true) := by simp
  show wpAny _ _ (if ((items.size : Int) - 1 == 0 && (-1 : Int) == 1 && items.size == items.size) = true then _ else _) _ _ s
  rw [if_neg no, pick_back]
  first
    | exact wpAny_bind (m := Builtin.Tuple.tupleExact _) (wpAny_newObj_type (wpAny_pure ⟨_, rfl, wpAny_pure h⟩) fit)
    | exact wpAny_bind (m := Builtin.Tuple.tupleExact _) (wpAny_newObj_type (wpAny_bind (wpAny_pure (wpAny_pure ⟨_, rfl, wpAny_pure h⟩))) fit)
    | exact wpAny_bind (wpAny_bind (m := Builtin.Tuple.tupleExact _) (wpAny_newObj_type (wpAny_pure (wpAny_pure ⟨_, rfl, wpAny_pure h⟩)) fit))
    | exact wpAny_bind (wpAny_bind (m := Builtin.Tuple.tupleExact _) (wpAny_newObj_type (wpAny_pure ⟨_, rfl, wpAny_pure h⟩) fit))
end
theorem pe_back {e : Expr} {te : TE} {k : Nat} {p1 p2 p3 pos : Pos} (he : PE X e te) : PE X (.Subscript e (.Slice none none (some (.UnaryOp .USub (.Constant (.int 1) k p1) p2)) p3) pos)
    (fun σ H Q => te σ H fun x H1 => ∃ p xs, x = .ref p ∧ ((SqL X.K H1 p xs ∧ ∀ q, H1 q = none → Q (.ref q) (upd H1 q (.lst xs.reverse))) ∨ (SqT X.K H1 p xs ∧ ∀ q, H1 q = none → Q (.ref q) (upd H1 q (.tup xs.reverse))))) := by
  refine ⟨fun pins s σ H Q I h => Subscript_ (thn (he.run pins s σ H _ I h) fun v s1 ⟨x, H1, I1, r1, p, xs, ex, q⟩ => ?_)⟩
  subst ex; cases r1
  have step : PO X (some (.UnaryOp .USub (.Constant (.int 1) k p1) p2)) (tPart (tUn (rU fun i => .int (-i)) (tC (.int 1)))) := po_some (pe_un un_neg pe_int)
  have none0 : ∀ {s' : Shared} {H' : Hp} (_ : Inv X pins σ H' s') {R : Value → Shared → Prop}, (Inv X pins σ H' s' → R .none s') → wpAny (model X.prog X.w) X.A (evalPart none X.env) R X.xe s' := fun {s' H'} I' {R} r => by
    rw [evalPart_none]; exact wpAny_pure (r I')
  refine wpAny_Slice (none0 I1 fun I2 => none0 I2 fun I3 => ?_)
  refine thn (step.run pins s1 σ H1 (fun o H4 => o = some (-1) ∧ H4 = H1) I3 ⟨1, rfl, -1, rfl, rfl, rfl⟩) fun vs s4 ⟨o, H4, I4, ps, eo, e4⟩ => ?_
  subst eo e4
  have I5 : Inv X pins σ H4 { s4 with heap := s4.heap.push { cls := .type "slice", data := .fields #[.none, .none, vs] } } := I4.kept (t' := s4.toks) fun b ob q => Heap.get?_push_of_some _ q
  show wpAny _ X.A (subscriptTail e _ (.ref p) (.ref s4.heap.objs.size)) _ _ _
  rcases q with ⟨hx, q⟩ | ⟨hx, q⟩
  · obtain ⟨its, r, ht, hz⟩ := I5.list hx
    have hlen := r.length
    refine tail_any (ops := [.ref p, .ref s4.heap.objs.size]) ht.isList.typeIs PySem.slot_list_getitem.lookup ?_ (by with_unfolding_all rfl)
    refine wpAny_getItem_list_slice ht.isList (Heap.IsSliceOf.new ..) .none .none ps (by decide) ?_ (by rw [List.size_toArray]; omega)
    rw [PySem.W.krv_pick]
    exact ⟨.ref _, _, I5.laid (t' := s4.toks) (o := .lst xs.reverse) (fun b ob q => Heap.get?_push_of_some _ q) (Nat.le_refl _) ⟨by rw [List.length_reverse]; exact hz, _, 0, r.reverse, Heap.get?_push_size _ rfl⟩, rfl, q _ (I5.hok.fresh (Nat.le_refl _))⟩
  · obtain ⟨its, r, ht, hz⟩ := I5.tuple hx
    have hlen := r.length
    refine tail_any (ops := [.ref p, .ref s4.heap.objs.size]) ht.typeIs PyProof.Rows.slot_tuple_getitem.lookup ?_ (by with_unfolding_all rfl)
    refine tuple_back ht (Heap.IsSliceOf.new ..) ps ?_ (by rw [List.size_toArray]; omega)
    exact ⟨.ref _, _, I5.laid (t' := s4.toks) (o := .tup xs.reverse) (fun b ob q => Heap.get?_push_of_some _ q) (Nat.le_refl _) ⟨by rw [List.length_reverse]; exact hz, _, r.reverse, IsTup.new _ _⟩, rfl, q _ (I5.hok.fresh (Nat.le_refl _))⟩
theorem pf_back (cx : Ctx B X) {a : Expr} {ca : Z.C} {k : Nat} {p1 p2 p3 pos : Pos} (ha : PE X a (tEv B G W ca)) :
    PE X (.Subscript a (.Slice none none (some (.UnaryOp .USub (.Constant (.int 1) k p1) p2)) p3) pos) (tEvF B G W (.rev ca)) := pf_revL cx ha (pe_back ha)
end Z
namespace Z
open PySem PySem.Spec PyProof.Rows L2
variable {B : Bs} {G : Sg} {W : WE} {U : XW} {X : Cx} {g g' g1 g2 : Cfg} {H H' H1 H2 : Hp} {m m' m1 : Mem}

/-! ### repr -/
theorem cr_repr (cx : Ctx B X) : CallR X (.builtin "repr") (fun vs H Q => ∃ v x, vs = [v] ∧ Dp X.K H v x ∧ x.canLay0 = true ∧ x.showable = true ∧ x.depth ≤ 60 ∧ x.shown.length ≤ sizeLine ∧ Q (.str x.shown) H) := by
  intro pins s σ H vs us Q I r h
  obtain ⟨v, x, rfl, hd, hc, hs, hp, hz, q⟩ := h
  obtain ⟨u, rfl, ru⟩ := vals1 r
  obtain ⟨as, rd⟩ := Dp.reads I x v u hd ru
  have hu : X.A.units + (x.depth + 1) < cLine := by have := cx.un; omega
  have nd : x.hasDict = true → sysModules ∉ as := PyData.noDict_hsm (PyData.hasDict_of_canLay x hc)
  cases hd with
  | non => cases ru; exact PySem.P.repr_of_none ⟨.str _, H, I.tok _, ⟨_, rfl⟩, by simpa [PyData.shown] using q⟩
  | bl b => cases ru; exact PySem.P.repr_of_bool ⟨.str _, H, I.tok _, ⟨_, rfl⟩, by simpa [PyData.shown] using q⟩
  | int i =>
    obtain ⟨t, rfl⟩ := ru
    exact PySem.P.repr_of_int (by simpa [PyData.showable] using hs) ⟨.str _, H, I.tok _, ⟨_, rfl⟩, by simpa [PyData.shown] using q⟩
  | str z =>
    obtain ⟨t, rfl⟩ := ru
    exact PySem.P.repr_of_str ⟨.str _, H, I.tok _, ⟨_, rfl⟩, by simpa [PyData.shown] using q⟩ (by simpa [PyData.shown] using hz)
  | lst h1 h2 => cases ru; exact repr_of_reads' rd hs nd cx.gd hu (fun _ _ e => e) (fun h' t tk k => ⟨.str _, H, I.kept (t' := tk) k, ⟨_, rfl⟩, q⟩) hz
  | tup h1 h2 => cases ru; exact repr_of_reads' rd hs nd cx.gd hu (fun _ _ e => e) (fun h' t tk k => ⟨.str _, H, I.kept (t' := tk) k, ⟨_, rfl⟩, q⟩) hz

/-! ### isinstance -/
theorem tyX_of {K : PySem.W.Frag} (hK : K = B.K) {v : V} {d : D} {t : String} (R : Rl B g m H) (h : Den B g H v d) (e : tyName m d = some t) : TyX K H v (.type t) := by
  subst hK
  cases h with
  | non => cases e; exact .base .non
  | bl b => cases e; exact .base (.bl b)
  | int i => cases e; exact .base (.int i)
  | str s => cases e; exact .base (.str s)
  | tup h r =>
    cases e
    rcases h with (h | ⟨o, h⟩) | ⟨o, its, n, h1, h2, _⟩
    · exact .base (.tup h)
    · exact .fTuple h
    · exact .kTuple h1 h2
  | lst f h r => cases e; exact .base (.lst h)
  | scr h => cases e
  | scrK h => cases e
  | @loc a n h =>
    simp only [tyName] at e
    cases q : m[n]? with
    | none => rw [q] at e; cases e
    | some mo =>
      rw [q] at e
      cases mo with
      | lst l => cases e; obtain ⟨xs, h1, _⟩ := R.mem n a _ h q; exact .base (.lst h1)
      | dk kvs => cases e; obtain ⟨xs, h1, _⟩ := R.mem n a _ h q; exact .base (.dK h1)
      | ins c fs => cases e
  | fn h => cases e
  | ty s => cases e
theorem kit_of_name {K : PySem.W.Frag} {m : Mem} {d : D} {u t : String} (e : tyName m d = some u) (ht : isKind t = true) : PySem.W.kitOne K (.type u) (.type t) = some (u == t || (u == "bool" && t == "int")) := by
  have hu : u = "NoneType" ∨ u = "bool" ∨ u = "int" ∨ u = "str" ∨ u = "tuple" ∨ u = "list" ∨ u = "dict" := by
    cases d <;> simp only [tyName] at e <;> (try cases e) <;> (try simp)
    split at e <;> (try cases e) <;> simp
  have ht' : t = "int" ∨ t = "bool" ∨ t = "str" ∨ t = "tuple" ∨ t = "list" := by
    unfold isKind at ht
    simpa using ht
  rcases hu with rfl | rfl | rfl | rfl | rfl | rfl | rfl <;> rcases ht' with rfl | rfl | rfl | rfl | rfl <;> first | rfl | (with_unfolding_all rfl) | kernel_rfl

/-! ### sorted -/
theorem sorted_eq {ns ms : List Int} (hp : ms.Perm ns) (hs : ms.Pairwise (· ≤ ·)) : ms = ns.mergeSort (fun a b => decide (a ≤ b)) := by
  have p2 : (ns.mergeSort (fun a b => decide (a ≤ b))).Perm ns := List.mergeSort_perm ns _
  have s2 : (ns.mergeSort (fun a b => decide (a ≤ b))).Pairwise (· ≤ ·) := by
    have := List.pairwise_mergeSort (le := fun a b : Int => decide (a ≤ b)) (by intro a b c h1 h2; simp at *; omega) (by intro a b; simp; omega) ns
    exact this.imp (by intro a b h; simpa using h)
  exact List.Perm.eq_of_pairwise (le := (· ≤ ·)) (fun a b _ _ h1 h2 => Int.le_antisymm h1 h2) hs s2 (hp.trans p2.symm)
end Z
/-! Z7: calls of built-in functions and types; displays of dicts. -/
namespace Z
open PySem PySem.Spec PyProof.Rows L2
variable {B : Bs} {G : Sg} {W : WE} {U : XW} {X : Cx} {g g' g1 g2 : Cfg} {H H' H1 H2 : Hp} {m m' m1 : Mem}

def biName : Bi → Str
  | .isinst => "isinstance" | .all => "all" | .any => "any" | .sum => "sum" | .len => "len" | .list => "list" | .tuple => "tuple" | .sorted => "sorted" | .repr => "repr" | .str => "str" | .int => "int"
def biVal : Bi → Value
  | .isinst => .builtin "isinstance" | .all => .builtin "all" | .any => .builtin "any" | .sum => .builtin "sum" | .len => .builtin "len" | .list => .type "list" | .tuple => .type "tuple"
  | .sorted => .builtin "sorted" | .repr => .builtin "repr" | .str => .type "str" | .int => .type "int"
def rBi (B : Bs) (b : Bi) : List V → Hp → VK → Prop := fun vs H Q => ∃ g m ds d, Rl B g m H ∧ Dens B g H vs ds ∧ biD b m ds = some d ∧ FinF B g H Q d m
theorem Dens.one {vs : List V} {d : D} (h : Dens B g H vs [d]) : ∃ v, vs = [v] ∧ Den B g H v d := by
  cases h with
  | cons h t => cases t; exact ⟨_, rfl, h⟩
theorem Dens.two {vs : List V} {d e : D} (h : Dens B g H vs [d, e]) : ∃ v w, vs = [v, w] ∧ Den B g H v d ∧ Den B g H w e := by
  cases h with
  | cons h t => cases t with | cons h2 t => cases t; exact ⟨_, _, rfl, h, h2⟩
/-! ### sorted, of lists and of tuples -/
theorem fresh_end {h h' : Heap} (k : ∀ b o, h.get? b = some o → h'.get? b = some o) : h.get? h'.objs.size = none := by
  cases e : h.get? h'.objs.size with
  | none => rfl
  | some o => exact absurd (Heap.lt_size (k _ _ e)) (Nat.lt_irrefl _)
theorem cases_seq {K : PySem.W.Frag} {H : Hp} {a : Addr} {xs : List V} (k : Bool) (h1 : k = true → SqL K H a xs) (h2 : k = false → SqT K H a xs) : SqL K H a xs ∨ SqT K H a xs := by
  cases k with
  | true => exact .inl (h1 rfl)
  | false => exact .inr (h2 rfl)
theorem sorted_at {prog : Program} {w : World} {A : Around} {E : Value → Shared → Prop} {s : Shared} {q : Addr} {T : String} {o : Obj} {items : Array Value} {n : Nat} {ns : List Int} {Q : Value → Shared → Prop} (hT : T = "list" ∨ T = "tuple") (ho : s.heap.get? q = some o) (hc : o.cls = .type T) (hd : o.data = .seq items n)
    (hi : IntsAre items.toList ns) (hz : items.size ≤ sizeLine)
    (h : ∀ (out : List Value) (p : Addr) (h2 : Heap), IntsAre out (out.map SrtO.iv) → (out.map SrtO.iv).Perm ns → (out.map SrtO.iv).Pairwise (· ≤ ·) → s.heap.get? p = none → (∀ b u, s.heap.get? b = some u → h2.get? b = some u) → (∃ e, h2.get? p = some (seqObj "list" out.toArray e)) → Q (.ref p) { s with heap := h2 }) :
    wpAny (model prog w) A (call (.builtin "sorted") [.ref q]) Q E s := by
  refine Calls.call_function_entry kind_sorted plain_sorted entry_sorted (args_sorted1 _) ?_
  unfold Builtin.«sorted»
  refine wpAny_bind (m := checkCount "sorted" 1 1 _) (wpAny_pure ?_)
  refine wpAny_bind (wpAny_collect_seq q hT ho hc hd (fun h' keep => ?_) hz)
  have hz' : items.toList.length ≤ sizeLine := by rw [Array.length_toList]; exact hz
  refine wpAny_bind (wpAny_newList ?_ hz')
  have at_ : (h'.push (seqObj "list" items.toList.toArray 0)).get? h'.objs.size = some (seqObj "list" items.toList.toArray 0) := Heap.get?_push_size _ rfl
  refine wpAny_bind (wpAny_holding (wpAny_call_entry slot_list_sort ⟨_, at_, rfl⟩ entry_list_sort (SrtO.list_sort_ord SrtO.swo_int at_ hz' (fun two => SrtO.ints_sortable hi two) fun out o1 o2 => ⟨_, rfl, ?_⟩) (args_list_sort _)))
  obtain ⟨k1, k2, k3⟩ := SrtO.ints_out hi o1 o2
  refine wpAny_pure ⟨_, rfl, h out _ _ k1 k2 k3 (fresh_end keep) (fun b u hb => ?_) (sortedHeap_at at_)⟩
  have lt : b < h'.objs.size := Heap.lt_size (keep b u hb)
  rw [sortedHeap_old (Nat.ne_of_lt lt) (by rw [Heap.size_push]; exact Nat.lt_succ_of_lt lt)]
  exact Heap.get?_push_of_some _ (keep b u hb)
theorem sorted_seq {pins : List (Addr × Obj)} {σ : L2.St} {s : Shared} {H : Hp} {a : Addr} {ns : List Int} {us : List Value} {Q : VK} (I : Inv X pins σ H s) (r : Vals [V.ref a] us) (hs : SqL X.K H a (ns.map V.int) ∨ SqT X.K H a (ns.map V.int))
    (h : ∀ (ns' : List Int) (p : Addr), ns'.Perm ns → ns'.Pairwise (· ≤ ·) → H p = none → Q (.ref p) (L2.upd H p (.lst (ns'.map V.int)))) : wpAny (model X.prog X.w) X.A (call (.builtin "sorted") us) (EP X pins σ Q) X.xe s := by
  rw [Vals.ref1 r]
  have fin : ∀ (out : List Value) (p : Addr) (h2 : Heap), ns.length ≤ sizeLine → IntsAre out (out.map SrtO.iv) → (out.map SrtO.iv).Perm ns → (out.map SrtO.iv).Pairwise (· ≤ ·) → s.heap.get? p = none → (∀ b u, s.heap.get? b = some u → h2.get? b = some u) → (∃ e, h2.get? p = some (seqObj "list" out.toArray e)) → EP X pins σ Q (.ref p) { s with heap := h2 } := fun out p h2 hz k1 k2 k3 k4 k5 k6 => by
    obtain ⟨e, k6⟩ := k6
    refine ⟨.ref p, L2.upd H p (.lst ((out.map SrtO.iv).map V.int)), I.laidN (t' := s.toks) k5 k4 (I.hok.gone k4) ⟨by rw [List.length_map, k2.length_eq]; exact hz, out, e, vals_of_ints k1, k6⟩, rfl, h _ _ k2 k3 (I.hok.gone k4)⟩
  rcases hs with hs | hs
  · obtain ⟨its, rv, ⟨o, n, e1, e2, _, e3⟩, hz⟩ := I.list hs
    have hl := rv.length
    rw [List.length_map] at hl hz
    exact sorted_at (.inl rfl) e1 e2 e3 (by simpa using rv.ints) (by rw [List.size_toArray]; omega) fun out p h2 => fin out p h2 (by omega)
  · obtain ⟨its, rv, ⟨o, e1, e2, n, e3⟩, hz⟩ := I.tuple hs
    have hl := rv.length
    rw [List.length_map] at hl hz
    exact sorted_at (.inr rfl) e1 e2 e3 (by simpa using rv.ints) (by rw [List.size_toArray]; omega) fun out p h2 => fin out p h2 (by omega)
theorem cr_bi (cx : Ctx B X) : ∀ b : Bi, CallR X (biVal b) (rBi B b) := by
  intro b pins s σ H vs us Q I r h
  obtain ⟨g, m, ds, d, R, hd, e, q⟩ := h
  cases b with
  | isinst =>
    simp only [biD] at e
    split at e <;> first | (simp at *; done) | skip
    · rename_i x t he
      obtain ⟨v, w, rfl, h1, h2⟩ := hd.two
      cases h2
      unfold isinstD at e
      cases q1 : tyName m x with
      | none => rw [q1] at e; cases e
      | some u =>
        rw [q1] at e
        by_cases ht : isKind t = true
        · simp only [ht, if_true, Option.map_some, Option.some.injEq] at e
          subst e
          exact call_isi pins s σ H _ us Q I r ⟨v, .ty t, _, _, _, rfl, .ty t, tyX_of cx.K R h1 q1, kit_of_name q1 ht, q.flat R (by simp) (.bl _)⟩
        · simp [ht] at e
  | all =>
    simp only [biD] at e
    split at e <;> first | (simp at *; done) | skip
    · rename_i x he
      obtain ⟨v, rfl, h1⟩ := hd.one
      cases q1 : rdL m x with
      | none => rw [q1] at e; cases e
      | some l =>
        rw [q1] at e
        obtain ⟨bs, hb, e⟩ := Option.map_eq_some_iff.mp e
        subst e
        obtain ⟨a, xs, e1, ha, hx⟩ := h1.rdL R q1
        rw [asBools_eq hb] at hx
        rw [hx.bls] at ha
        exact cr_all cx.calm pins s σ H _ us Q I r ⟨a, bs, by rw [e1], SqL.of ha, q.flat R (by simp) (.bl _)⟩
  | any =>
    simp only [biD] at e
    split at e <;> first | (simp at *; done) | skip
    · rename_i x he
      obtain ⟨v, rfl, h1⟩ := hd.one
      cases q1 : rdL m x with
      | none => rw [q1] at e; cases e
      | some l =>
        rw [q1] at e
        obtain ⟨bs, hb, e⟩ := Option.map_eq_some_iff.mp e
        subst e
        obtain ⟨a, xs, e1, ha, hx⟩ := h1.rdL R q1
        rw [asBools_eq hb] at hx
        rw [hx.bls] at ha
        exact cr_any cx.calm pins s σ H _ us Q I r ⟨a, bs, by rw [e1], SqL.of ha, q.flat R (by simp) (.bl _)⟩
  | sum =>
    simp only [biD] at e
    split at e <;> first | (simp at *; done) | skip
    · rename_i x he
      obtain ⟨v, rfl, h1⟩ := hd.one
      cases q1 : rdL m x with
      | none => rw [q1] at e; cases e
      | some l =>
        rw [q1] at e
        obtain ⟨bs, hb, e⟩ := Option.map_eq_some_iff.mp e
        subst e
        obtain ⟨a, xs, e1, ha, hx⟩ := h1.rdL R q1
        rw [asInts_eq hb] at hx
        rw [hx.ints] at ha
        exact cr_sum cx.calm pins s σ H _ us Q I r ⟨a, bs, by rw [e1], SqL.of ha, q.flat R (by simp) (.int _)⟩
  | sorted =>
    simp only [biD] at e
    split at e <;> first | (simp at *; done) | skip
    · rename_i x he
      obtain ⟨v, rfl, h1⟩ := hd.one
      cases q1 : rdS m x with
      | none => rw [q1] at e; cases e
      | some kl =>
        obtain ⟨k, l⟩ := kl
        rw [q1] at e
        obtain ⟨bs, hb, e⟩ := Option.map_eq_some_iff.mp e
        subst e
        obtain ⟨a, xs, e1, hx, s1, s2⟩ := h1.rdS R q1
        rw [asInts_eq hb] at hx
        subst e1
        cases hx.ints
        rw [← cx.K] at s1 s2
        refine sorted_seq I r (cases_seq k s1 s2) fun ns' p hp hs hn => ?_
        rw [sorted_eq hp hs]
        exact q.lst R hn (Dens.of_ints _)
  | len =>
    simp only [biD] at e
    split at e <;> first | (simp at *; done) | skip
    · rename_i x he
      obtain ⟨v, rfl, h1⟩ := hd.one
      cases q1 : rdS m x with
      | none =>
        rw [q1] at e
        cases x with
        | str z =>
          simp only at e
          split at e
          · rename_i hz
            cases e
            cases h1
            exact call_len_str pins s σ H _ us Q I r ⟨z, rfl, hz, q.flat R (by simp) (.int _)⟩
          · cases e
        | _ => cases e
      | some p =>
        obtain ⟨b, l⟩ := p
        rw [q1] at e
        cases e
        obtain ⟨a, xs, e1, hx, hl, ht⟩ := h1.rdS R q1
        refine call_len_seq pins s σ H _ us Q I r ⟨a, xs, by rw [e1], ?_, by rw [hx.length]; exact q.flat R (by simp) (.int _)⟩
        cases b with
        | true => exact .inl (plainL cx.K (hl rfl))
        | false => exact .inr (plainT cx.K (ht rfl))
  | list =>
    simp only [biD] at e
    split at e <;> first | (simp at *; done) | skip
    · rename_i x he
      obtain ⟨v, rfl, h1⟩ := hd.one
      cases q1 : rdS m x with
      | none => rw [q1] at e; cases e
      | some p =>
        obtain ⟨b, l⟩ := p
        rw [q1] at e
        cases e
        obtain ⟨a, xs, e1, hx, hl, ht⟩ := h1.rdS R q1
        refine call_list_of pins s σ H _ us Q I r ⟨a, xs, by rw [e1], ?_, fun p hp => q.lst R hp hx⟩
        cases b with
        | true => exact .inl (plainL cx.K (hl rfl))
        | false => exact .inr (plainT cx.K (ht rfl))
  | tuple =>
    simp only [biD] at e
    split at e <;> first | (simp at *; done) | skip
    · rename_i x he
      obtain ⟨v, rfl, h1⟩ := hd.one
      cases q1 : rdS m x with
      | none => rw [q1] at e; cases e
      | some p =>
        obtain ⟨b, l⟩ := p
        rw [q1] at e
        cases e
        obtain ⟨a, xs, e1, hx, hl, ht⟩ := h1.rdS R q1
        refine call_tuple_of pins s σ H _ us Q I r ⟨a, xs, by rw [e1], ?_⟩
        cases b with
        | true => exact .inl ⟨plainL cx.K (hl rfl), fun p hp => q.tup R hp hx⟩
        | false => exact .inr ⟨plainT cx.K (ht rfl), q.flat R (by simp) (.tup (ht rfl) hx)⟩
  | repr =>
    simp only [biD] at e
    split at e <;> first | (simp at *; done) | skip
    · rename_i x he
      obtain ⟨v, rfl, h1⟩ := hd.one
      unfold reprD at e
      cases q1 : pyOf m x with
      | none => rw [q1] at e; cases e
      | some y =>
        rw [q1] at e
        simp only at e
        split at e
        · rename_i hz
          simp only [Bool.and_eq_true, decide_eq_true_eq] at hz
          cases e
          exact cr_repr cx pins s σ H _ us Q I r ⟨v, y, rfl, by rw [cx.K]; exact h1.py R q1, hz.1.1.1, hz.1.1.2, hz.1.2, hz.2, q.flat R (by simp) (.str _)⟩
        · cases e
  | str =>
    simp only [biD] at e
    split at e <;> first | (simp at *; done) | skip
    · rename_i i he
      obtain ⟨v, rfl, h1⟩ := hd.one
      cases h1
      split at e
      · rename_i hz
        cases e
        exact call_str_int pins s σ H _ us Q I r ⟨i, rfl, hz, q.flat R (by simp) (.str _)⟩
      · cases e
  | int =>
    simp only [biD] at e
    split at e <;> first | (simp at *; done) | skip
    · rename_i i he
      cases e
      obtain ⟨v, rfl, h1⟩ := hd.one
      cases h1
      exact call_int1 pins s σ H _ us Q I r (.inl ⟨i, rfl, q.flat R (by simp) (.int _)⟩)
    · rename_i i he
      cases e
      obtain ⟨v, rfl, h1⟩ := hd.one
      cases h1
      exact call_int1 pins s σ H _ us Q I r (.inr ⟨i, rfl, q.flat R (by simp) (.int _)⟩)
end Z
/-! Z8: displays of dicts; calls of built-ins in the text; comprehensions. -/
namespace Z
open PySem PySem.Spec PyProof.Rows L2
variable {B : Bs} {G : Sg} {W : WE} {U : XW} {X : Cx} {g g' g1 g2 : Cfg} {H H' H1 H2 : Hp} {m m' m1 : Mem}

/-! ### {"k": v, ..} -/
inductive DV (B : Bs) (G : Sg) (W : WE) (X : Cx) : List (Option Expr) → List Expr → List Str → Cs → Prop
  | nil : DV B G W X [] [] [] .nil
  | cons {k : Str} {j : Nat} {pos : Pos} {v : Expr} {c : Z.C} {ks : List (Option Expr)} {vs : List Expr} {ns : List Str} {l : Cs} : PE X v (tEv B G W c) → DV B G W X ks vs ns l →
      DV B G W X (some (.Constant (.str k) j pos) :: ks) (v :: vs) (k :: ns) (.cons c l)
def trsOf (B : Bs) (G : Sg) (W : WE) : List Str → Cs → List (TE × TE)
  | n :: ns, .cons c l => (tC (.str n), tEv B G W c) :: trsOf B G W ns l
  | _, _ => []
theorem DV.pps {pos : Pos} {ks : List (Option Expr)} {vs : List Expr} {ns : List Str} {l : Cs} (h : DV B G W X ks vs ns l) : PPs X pos ks vs (trsOf B G W ns l) := by
  induction h with
  | nil => exact pps_nil
  | cons h t ih => exact pps_cons pe_str h ih
theorem DV.keys {ks : List (Option Expr)} {vs : List Expr} {ns : List Str} {l : Cs} (h : DV B G W X ks vs ns l) : ks.all (·.isSome) = true ∧ ks.length = vs.length ∧ ks.length = ns.length ∧ ns.length = l.len := by
  induction h with
  | nil => exact ⟨rfl, rfl, rfl, rfl⟩
  | cons h t ih =>
    obtain ⟨h1, h2, h3, h4⟩ := ih
    refine ⟨by rw [List.all_cons, h1]; rfl, by rw [List.length_cons, List.length_cons, h2], by rw [List.length_cons, List.length_cons, h3], ?_⟩
    rw [List.length_cons, h4]; rfl
theorem pairs_read {σ : L2.St} {e : Env} : ∀ {ns : List Str} {l : Cs} {g : Cfg} {m : Mem} {H : Hp} {Q : List (V × V) → Hp → Prop}, ns.length = l.len → Rl B g m H → EnvR B g H σ e →
    Post B g H (W σ e) (fun g' m' H' ds => ∀ vs, Dens B g' H' vs ds → Q ((ns.zip vs).map fun p => (V.str p.1, p.2)) H') (evalCs G l e m) → tPairs (trsOf B G W ns l) σ H Q
  | [], .nil, g, m, H, Q, _, R, E, p => by
    unfold evalCs at p
    exact p.ok0 R [] .nil
  | n :: ns, .cons c l, g, m, H, Q, hl, R, E, p => by
    unfold evalCs at p
    show tC (.str n) σ H fun x H1 => tEv B G W c σ H1 fun y H2 => tPairs (trsOf B G W ns l) σ H2 fun ps H3 => Q ((x, y) :: ps) H3
    refine ⟨g, m, e, R, E, p.bind.imp fun g1 m1 H1 d x R1 _ q v hv => ?_⟩
    refine pairs_read (by simpa [Cs.len] using hl) R1 (E.ext x R) (q.bind.imp fun g2 m2 H2 ds y R2 _ z vs hvs => ?_)
    exact z.ok0 R2 (v :: vs) (.cons (hv.ext y R1) hvs)
  | [], .cons c l, g, m, H, Q, hl, _, _, _ => by simp [Cs.len] at hl
  | n :: ns, .nil, g, m, H, Q, hl, _, _, _ => by simp [Cs.len] at hl
theorem merge_new : ∀ {more acc : List (Key × V)}, (more.map (·.1)).Nodup → (∀ k ∈ more.map (·.1), k ∉ acc.map (·.1)) → mergeK acc more = acc ++ more
  | [], acc, _, _ => by simp [mergeK]
  | p :: more, acc, nd, h => by
    have nd' := List.nodup_cons.mp (by simpa using nd : (p.1 :: more.map (·.1)).Nodup)
    have hp : p.1 ∉ acc.map (·.1) := h p.1 (by simp)
    have e : putK acc p.1 p.2 = acc ++ [p] := by
      unfold putK
      rw [if_neg]
      simp only [List.any_eq_true, decide_eq_true_eq, not_exists, not_and]
      intro q hq e
      exact hp (List.mem_map.mpr ⟨q, hq, e⟩)
    show mergeK (putK acc p.1 p.2) more = _
    rw [e, merge_new nd'.2 (fun k hk => ?_), List.append_assoc]
    · rfl
    · rw [List.map_append, List.mem_append, not_or]
      refine ⟨h k (by rw [List.map_cons]; exact List.mem_cons_of_mem _ hk), fun z => ?_⟩
      have z' : k = p.1 := by simpa using z
      exact nd'.1 (z' ▸ hk)
theorem zip_den {vs : List V} {ds : List D} : ∀ {ns : List Str}, ns.length = ds.length → Dens B g H vs ds →
    Paired (fun (p : Key × V) (q : Key × D) => p.1 = q.1 ∧ Den B g H p.2 q.2) ((ns.zip vs).map fun p => ((Sum.inr p.1 : Key), p.2)) ((ns.map fun n => (Sum.inr n : Key)).zip ds) := by
  intro ns hl h
  induction ns generalizing vs ds with
  | nil => exact .nil
  | cons n ns ih =>
    cases h with
    | nil => simp at hl
    | cons h t => exact .cons ⟨rfl, h⟩ (ih (by simpa using hl) t)
theorem pz_dict {pos : Pos} {ks : List (Option Expr)} {vs : List Expr} {ns : List Str} {l : Cs} (h : DV B G W X ks vs ns l) (h0 : ns ≠ []) (h15 : ns.length ≤ 15) (nd : ns.Nodup) : PE X (.Dict ks vs pos) (tEv B G W (.dict ns l)) := by
  obtain ⟨k1, k2, k3, k4⟩ := h.keys
  refine peI (pe_disp h.pps k1 k2 (fun e => h0 (by rw [e] at k3; exact List.eq_nil_of_length_eq_zero k3.symm)) (by omega)) fun σ H Q ⟨g, m, e, R, E, p⟩ a ha => ?_
  unfold evalC at p
  have R1 := Rl.upd (o := .dK []) R ha
  have x1 := Ext.upd (o := .dK []) R ha
  have na := R.notIn ha
  have nf : ¬ g.fz a := fun z => (by obtain ⟨ys, q⟩ := R.trk a z; rw [ha] at q; cases q)
  refine pairs_read k4 R1 (E.ext x1 R) (Post.ext x1 p.bind |>.imp fun g2 m2 H2 ds x R2 eq q vs hvs => ?_)
  have e2 : H2 a = some (.dK []) := x.keep _ _ upd_same na
  have na2 : a ∉ g2.al := fun z => (x.newA a z).elim na fun w => by rw [upd_same] at w; cases w
  have nf2 : ¬ g2.fz a := fun z => (x.newF a z).elim nf fun w => by rw [upd_same] at w; cases w
  have ln := evalCs_len eq
  refine ⟨e2, (ns.zip vs).map fun p => ((Sum.inr p.1 : Key), p.2), ?_, ?_, ?_⟩
  · rw [List.map_map]
    rfl
  · rw [List.length_map, List.length_zip]
    omega
  · have md : (((ns.zip vs).map fun p => ((Sum.inr p.1 : Key), p.2)).map (·.1)).Nodup := by
      rw [List.map_map]
      have e3 : ((fun x => x.1) ∘ fun (p : Str × V) => ((Sum.inr p.1 : Key), p.2)) = (fun n => (Sum.inr n : Key)) ∘ Prod.fst := rfl
      rw [e3, ← List.map_map, List.map_fst_zip (by rw [hvs.length, ln]; omega)]
      exact List.Pairwise.map _ (fun a b h e => h (Sum.inr.inj e)) nd
    rw [merge_new md (fun _ _ => by simp), List.nil_append]
    generalize hkv : ((ns.zip vs).map fun p => ((Sum.inr p.1 : Key), p.2)) = kvs
    obtain ⟨mo, R3⟩ := R2.updOut (o := .dK kvs) e2 rfl na2 nf2
    have R4 := R3.adoptA na2 nf2 (mo := .dk ((ns.map Sum.inr).zip ds)) ⟨kvs, upd_same, by
      have hz := zip_den (by rw [ln]; exact k4) hvs
      rw [hkv] at hz
      exact Paired.mapP hz fun p q z => ⟨z.1, (z.2.mon mo R2).mon (Mon.more _ _ _) R3⟩⟩
    have xx : Ext g H (g2.more a) (L2.upd H2 a (.dK kvs)) := by
      have y := (x1.trans x).adoptA ha
      refine ⟨y.pre, y.sub, fun b o hb nb => ?_, y.newF, y.newA, fun b hb => ?_⟩
      · rw [upd_ne (ne_of_none hb ha)]; exact y.keep b o hb nb
      · rw [upd_ne (show b ≠ a from fun e => hb (e ▸ ha))]; exact y.trk b hb
    rw [eq, Out.bind_ok] at p
    refine p _ _ xx R4 _ (.loc ?_)
    show (g2.al ++ [a])[m2.length]? = some a
    rw [← R2.len, List.getElem?_append_right (Nat.le_refl _)]
    simp
end Z
/-! Z9: what a def promises; calls. -/
namespace Z
open PySem PySem.Spec PyProof.Rows L2
variable {B : Bs} {G : Sg} {W : WE} {U : XW} {X : Cx} {g g' g1 g2 : Cfg} {H H' H1 H2 : Hp} {m m' m1 : Mem}

/-! ### exceptions -/
def ExAt (B : Bs) (g : Cfg) (H : Hp) (x : Ex) (cls : Value) (d : Option Addr) : Prop :=
  ∃ C ns vs dx, B.ec x.c = some (C, ns) ∧ cls = .ref C ∧ d = some dx ∧ H dx = some (.xd (ns.zip vs)) ∧ Dens B g H vs x.fs ∧ ns.length = x.fs.length
/-- the wish of a call, from the wish of the place -/
def EW (B : Bs) (W : WE) (σ : L2.St) : XK := fun cls d H' => ∃ e x g' m', Rl B g' m' H' ∧ EnvR B g' H' σ e ∧ ExAt B g' H' x cls d ∧ W σ e x g' m' H'

/-! ### a def's promise -/
def spOf (B : Bs) (np : Nat) (S : List D → Mem → Out D) : Sp := fun vs H Q E => ∃ g m ds, Rl B g m H ∧ Dens B g H vs ds ∧ ds.length = np ∧
  Post B g H (fun x g' m' H' => ∀ cls d, ExAt B g' H' x cls d → E cls d H') (fun g' m' H' d => ∀ v, Den B g' H' v d → Q v H') (S ds m)
/-- as the layer's contract, where no repr is under way -/
structure FnG (P : Program) (w : World) (K : PySem.W.Frag) (mg : Str → Option Value) (base : Heap) (k : Nat) (f : Addr) (fd : FuncData) (ps : List Str) (sp : Sp) : Prop where
  len : ∀ vs H Q E, sp vs H Q E → vs.length = ps.length
  run : ∀ (A : Around) (outer : List PySem.Env) (s : Shared) (H : Hp) (args : Args) (us : List Value) (vs : List V) (Q : VK) (E : XK), Room k A → A.guards = some [] →
    Env0 P w K mg base A outer s H → BindsTo s fd args (ps.zip us) → Vals vs us → sp vs H Q E → codeAny (model P w) A (.call (.ref f) args) (CR (L2.CX P w) outer P w H s Q E) s
/-- a way to call a def by names: its number, its parameters, how many stand by place, the names, their places, what is left out -/
structure Shp where
  n : Nat
  np : Nat
  npos : Nat
  ks : List Str
  ix : List Nat
  df : List (Nat × D)
/-- values left out -/
def Dfl (B : Bs) (df : List (Nat × D)) (vV : List (Nat × V)) (vU : List (Nat × Value)) : Prop :=
  Paired (fun (p : Nat × D) (q : Nat × V) => p.1 = q.1 ∧ ∀ g H, Den B g H q.2 p.2) df vV ∧ Paired (fun (p : Nat × V) (q : Nat × Value) => p.1 = q.1 ∧ RelV p.2 q.2) vV vU
/-- the table of the defs that may be called at a level -/
structure Fns (P : Program) (w : World) (mg : Str → Option Value) (base : Heap) (B : Bs) (G : Sg) (k : Nat) (np : Nat → Option Nat) (sh : Shp → Prop) : Prop where
  ok : ∀ n c, np n = some c → ∃ a fd ps, B.fa n = some a ∧ ps.length = c ∧ PySem.W.keepIn B.K (.ref a) = true ∧ Binds B.K fd ps [] ∧ FnG P w B.K mg base k a fd ps (spOf B c (G n)) ∧
    ∀ s, sh s → s.n = n → s.np = c → ∃ vV vU, Dfl B s.df vV vU ∧ ∀ (st : Shared) (us ws : List Value), B.K.In st.heap → us.length = s.npos → ws.length = s.ks.length → BindsTo st fd ⟨us, s.ks.zip ws⟩ (ps.zip (placed c us s.ix ws vU .none))

/-- a body (or a block) where code may stand -/
structure Fits (B : Bs) (G : Sg) (W : WE) (np : Nat → Option Nat) (sh : Shp → Prop) (X : Cx) : Prop extends Ctx B X where
  lv : ∃ k, Room k X.A ∧ Fns X.prog X.w X.mg X.base B G k np sh
  pass : ∀ σ, PassesAt (L2.CX X.prog X.w) X σ (EW B W σ)

theorem run_g {k : Nat} {f : Addr} {fd : FuncData} {ps : List Str} {sp : Sp} {E : L2.St → XK} {pins : List (Addr × Obj)} {σ : L2.St} {s : Shared} {Q : VK} {us : List Value} {vs : List V} (F : FnG X.prog X.w X.K X.mg X.base k f fd ps sp) (hr : Room k X.A) (hg : X.A.guards = some [])
    (hb : Binds X.K fd ps []) (hx : PassesAt (L2.CX X.prog X.w) X σ (E σ)) (I : Inv X pins σ H s) (r : Vals vs us) (h : sp vs H Q (E σ)) : wpAny (model X.prog X.w) X.A (call (.ref f) us) (EP X pins σ Q) X.xe s := by
  have hl : us.length = ps.length := by rw [← r.length]; exact F.len _ _ _ _ h
  have bs : BindsTo s fd ⟨us, []⟩ (ps.zip us) := by
    have q := hb s us I.kIn (by rw [List.append_nil]; exact hl)
    rwa [List.append_nil] at q
  refine wpAny_call (codeAny_mono (F.run X.A X.stack s H ⟨us, []⟩ us vs Q (E σ) hr hg I.env0 bs r h) fun res s' hq => ?_)
  match res, hq with
  | .error e, hq => exact hx pins H s e s' I hq
  | .ok (.ret u), hq => exact I.after hq
  | .ok .next, hq => exact False.elim hq
  | .ok .brk, hq => exact False.elim hq
  | .ok .cont, hq => exact False.elim hq

/-! ### argument lists of the text -/
def notStar : Expr → Bool
  | .Starred _ _ => false
  | _ => true
theorem star_cons {e : Expr} {es : List Expr} {env : PySem.Env} (h : notStar e = true) : starEach (e :: es) env = (false, eval e env) :: starEach es env := by
  cases e <;> first | rfl | (exact absurd h (by simp [notStar]))
theorem star_none {env : PySem.Env} {pos : Pos} : ∀ {es : List Expr}, es.all notStar = true → (backTo pos (starEach es env)).any (·.1) = false
  | [], _ => rfl
  | e :: es, h => by
    rw [List.all_cons, Bool.and_eq_true] at h
    rw [star_cons h.1]
    show (false || (backTo pos (starEach es env)).any (·.1)) = false
    rw [Bool.false_or]
    exact star_none h.2

theorem pf_bi (cx : Ctx B X) {b : Bi} {x : Str} {p pos : Pos} {e : Expr} {es : List Expr} {l : Cs} (hx : x = biName b) (hg : Gl X x) (hm : X.mg x = none) (ha : PA X (e :: es) (tEvs B G W l)) (hs : (e :: es).all notStar = true) :
    PE X (.Call (.Name x p) (e :: es) [] pos) (tEvF B G W (.bi b l)) := by
  rw [List.all_cons, Bool.and_eq_true] at hs
  have rd : ∀ {r : List V → Hp → VK → Prop}, PE X (.Call (.Name x p) (e :: es) [] pos) (tCB (rBi B b) (tEvs B G W l)) → PE X (.Call (.Name x p) (e :: es) [] pos) (tEvF B G W (.bi b l)) := fun h =>
    peI h fun σ H Q ⟨g, m, e, R, E, p⟩ => ⟨g, m, e, R, E, by
      unfold evalC at p
      refine p.bind.imp fun g1 m1 H1 ds x R1 _ q vs hvs => ?_
      cases eo : biD b m1 ds with
      | none => rw [eo] at q; exact q.elim
      | some d => rw [eo] at q; exact ⟨g1, m1, ds, d, R1, hvs, eo, q⟩⟩
  refine rd (r := rBi B b) ?_
  have c := cr_bi cx b
  subst hx
  cases b with
  | list => exact pe_callTy c hg hm (by decide +kernel) ha (by decide) (by decide) (star_cons hs.1) (star_none hs.2)
  | tuple => exact pe_callTy c hg hm (by decide +kernel) ha (by decide) (by decide) (star_cons hs.1) (star_none hs.2)
  | str => exact pe_callTy c hg hm (by decide +kernel) ha (by decide) (by decide) (star_cons hs.1) (star_none hs.2)
  | int => exact pe_callTy c hg hm (by decide +kernel) ha (by decide) (by decide) (star_cons hs.1) (star_none hs.2)
  | isinst => exact pe_callB c hg hm (by decide +kernel) ha (by decide) (by decide) (star_cons hs.1) (star_none hs.2)
  | all => exact pe_callB c hg hm (by decide +kernel) ha (by decide) (by decide) (star_cons hs.1) (star_none hs.2)
  | any => exact pe_callB c hg hm (by decide +kernel) ha (by decide) (by decide) (star_cons hs.1) (star_none hs.2)
  | sum => exact pe_callB c hg hm (by decide +kernel) ha (by decide) (by decide) (star_cons hs.1) (star_none hs.2)
  | len => exact pe_callB c hg hm (by decide +kernel) ha (by decide) (by decide) (star_cons hs.1) (star_none hs.2)
  | sorted => exact pe_callB c hg hm (by decide +kernel) ha (by decide) (by decide) (star_cons hs.1) (star_none hs.2)
  | repr => exact pe_callB c hg hm (by decide +kernel) ha (by decide) (by decide) (star_cons hs.1) (star_none hs.2)

/-! ### calls of defs -/
/-- the reading of a call at hand -/
theorem call_read {σ : L2.St} {e : Env} {np : Nat} {S : List D → Mem → Out D} {Q : VK} {vs : List V} {ds : List D} (R : Rl B g m H) (E : EnvR B g H σ e) (hv : Dens B g H vs ds) (hl : ds.length = np)
    (h : Post B g H (W σ e) (fun g' m' H' d => ∀ v, Den B g' H' v d → Q v H') (S ds m)) : spOf B np S vs H Q (EW B W σ) := by
  refine ⟨g, m, ds, R, hv, hl, ?_⟩
  generalize S ds m = o at h
  cases o with
  | ok d m' => exact h
  | exc x m' => exact fun g' H' y R' cls d ha => ⟨e, x, g', m', R', E.ext y R, ha, h g' H' y R'⟩
  | bad => exact h
/-- f(e, ..), f a def of the module -/
theorem pz_call {np : Nat → Option Nat} {sh : Shp → Prop} (F : Fits B G W np sh X) {n c : Nat} {x : Str} {p pos : Pos} {es : List Expr} {l : Cs} (hn : np n = some c) (hl : l.len = c) (hg : Gl X x) (hm : ∀ a, B.fa n = some a → X.mg x = some (.ref a)) (ha : PA X es (tEvs B G W l))
    (hs : es.all notStar = true) (h0 : es = [] → l = .nil) (hd : (x == ("__debug__" : Str)) = false) : PE X (.Call (.Name x p) es [] pos) (tEv B G W (.call n l)) := by
  obtain ⟨k, hr, FN⟩ := F.lv
  obtain ⟨a, fd, ps, f1, f2, f3, f4, f5, _⟩ := FN.ok n c hn
  have K := F.K
  rw [← K] at f3 f4 f5
  refine ⟨fun pins s σ H Q I ⟨g, m, e, R, E, p⟩ => wpAny_Call_Name_kw (ld_glob I hg (hm a f1) ?_ hd)⟩
  unfold evalC at p
  have main : ∀ us s1, AP X pins σ (fun vs H1 => spOf B c (G n) vs H1 Q (EW B W σ)) us s1 → wpAny (model X.prog X.w) X.A (call (.ref a) us) (EP X pins σ Q) X.xe s1 := fun us s1 ⟨vs, H1, I1, rv, q⟩ =>
    run_g (E := EW B W) f5 hr F.gd f4 (F.pass σ) I1 rv q
  have rd : tEvs B G W l σ H fun vs H1 => spOf B c (G n) vs H1 Q (EW B W σ) := ⟨g, m, e, R, E, p.bind.imp fun g1 m1 H1 ds x R1 eq q vs hvs =>
    call_read R1 (E.ext x R) hvs ((evalCs_len eq).trans hl) q⟩
  cases es with
  | nil =>
    obtain rfl := h0 rfl
    unfold evalCs at p
    exact PySem.W.callWith_K0 I.kIn f3 (main [] s ⟨[], H, I, .nil, call_read R E .nil hl p⟩)
  | cons e1 es =>
    rw [List.all_cons, Bool.and_eq_true] at hs
    exact PySem.W.callWith_K (h₀ := X.base) I.ok.mod.kin f3 (thn (ha.run pos pins s σ H _ I rd) fun us s1 hq => ⟨hq.choose_spec.choose_spec.1.kIn, main us s1 hq⟩) (star_cons hs.1) (star_none hs.2)

/-! ### calls by names -/
theorem evalCs_nil (e : Env) (m : Mem) : evalCs G .nil e m = .ok [] m := by unfold evalCs; rfl
theorem run_gk {k : Nat} {f : Addr} {fd : FuncData} {ps : List Str} {sp : Sp} {E : L2.St → XK} {pins : List (Addr × Obj)} {σ : L2.St} {s : Shared} {Q : VK} {us us2 : List Value} {kw : List (Str × Value)} {vs : List V} (F : FnG X.prog X.w X.K X.mg X.base k f fd ps sp) (hr : Room k X.A) (hg : X.A.guards = some [])
    (hb : BindsTo s fd ⟨us2, kw⟩ (ps.zip us)) (hx : PassesAt (L2.CX X.prog X.w) X σ (E σ)) (I : Inv X pins σ H s) (r : Vals vs us) (h : sp vs H Q (E σ)) : wpAny (model X.prog X.w) X.A (call (.ref f) us2 kw) (EP X pins σ Q) X.xe s := by
  refine wpAny_call (codeAny_mono (F.run X.A X.stack s H ⟨us2, kw⟩ us vs Q (E σ) hr hg I.env0 hb r h) fun res s' hq => ?_)
  match res, hq with
  | .error e, hq => exact hx pins H s e s' I hq
  | .ok (.ret u), hq => exact I.after hq
  | .ok .next, hq => exact False.elim hq
  | .ok .brk, hq => exact False.elim hq
  | .ok .cont, hq => exact False.elim hq
inductive KwZ (B : Bs) (G : Sg) (W : WE) (X : Cx) : List Keyword → List Str → Cs → Prop
  | nil : KwZ B G W X [] [] .nil
  | cons {k : Str} {v : Expr} {pos : Pos} {c : Z.C} {kws : List Keyword} {ns : List Str} {l : Cs} : PE X v (tEv B G W c) → KwZ B G W X kws ns l → KwZ B G W X (⟨some k, v, pos⟩ :: kws) (k :: ns) (.cons c l)
theorem pkI {ks : List Keyword} {t t' : TA} (h : PK X ks t) (i : ∀ σ H Q, t' σ H Q → t σ H Q) : PK X ks t' := ⟨fun pos pins s σ H Q I q => h.run pos pins s σ H Q I (i σ H Q q)⟩
theorem KwZ.pk {kws : List Keyword} {ns : List Str} {l : Cs} (h : KwZ B G W X kws ns l) : PK X kws (tEvs B G W l) := by
  induction h with
  | nil =>
    refine pkI pk_nil fun σ H Q ⟨g, m, e, R, E, p⟩ => ?_
    unfold evalCs at p
    exact p.ok0 R [] .nil
  | cons h t ih =>
    refine pkI (pk_cons h ih) fun σ H Q ⟨g, m, e, R, E, p⟩ => ⟨g, m, e, R, E, ?_⟩
    unfold evalCs at p
    refine p.bind.imp fun g1 m1 H1 d x R1 _ q v hv => ⟨g1, m1, e, R1, E.ext x R, ?_⟩
    refine q.bind.imp fun g2 m2 H2 ds y R2 _ z vs hvs => ?_
    exact z.ok0 R2 (v :: vs) (.cons (hv.ext y R1) hvs)
theorem KwZ.facts {pos : Pos} {env : PySem.Env} {kws : List Keyword} {ns : List Str} {l : Cs} (h : KwZ B G W X kws ns l) : (backToKw pos (keywordEach kws env)).all (·.1.isSome) = true ∧ (backToKw pos (keywordEach kws env)).any (·.1.isNone) = false ∧
    (backToKw pos (keywordEach kws env)).filterMap (·.1) = ns ∧ ns.length = l.len := by
  induction h with
  | nil => exact ⟨rfl, rfl, rfl, rfl⟩
  | @cons k v ps c kws ns l h t ih =>
    obtain ⟨h1, h2, h3, h4⟩ := ih
    refine ⟨?_, ?_, ?_, ?_⟩
    · show (true && (backToKw pos (keywordEach kws env)).all (·.1.isSome)) = true
      rw [h1]; rfl
    · show (false || (backToKw pos (keywordEach kws env)).any (·.1.isNone)) = false
      rw [h2]; rfl
    · show k :: (backToKw pos (keywordEach kws env)).filterMap (·.1) = k :: ns
      rw [h3]
    · show ns.length + 1 = l.len + 1
      rw [h4]
theorem lookup_rel {α β : Type} {Rr : α → β → Prop} : ∀ {ix : List Nat} {ws : List α} {us : List β} (i : Nat), Paired Rr ws us → (∃ a b, (ix.zip ws).lookup i = some a ∧ (ix.zip us).lookup i = some b ∧ Rr a b) ∨ ((ix.zip ws).lookup i = none ∧ (ix.zip us).lookup i = none)
  | [], _, _, i, _ => .inr ⟨rfl, rfl⟩
  | k :: ix, _, _, i, .nil => .inr ⟨rfl, rfl⟩
  | k :: ix, _, _, i, .cons (a := a) (b := b) h t => by
    show (∃ a' b', List.lookup i ((k, a) :: (ix.zip _)) = some a' ∧ List.lookup i ((k, b) :: (ix.zip _)) = some b' ∧ Rr a' b') ∨ _
    by_cases e : i = k
    · subst e
      exact .inl ⟨a, b, by simp [List.lookup], by simp [List.lookup], h⟩
    · have e2 : (i == k) = false := by simpa using e
      rcases lookup_rel (ix := ix) i t with ⟨a', b', h1, h2, h3⟩ | ⟨h1, h2⟩
      · exact .inl ⟨a', b', by simpa [List.lookup, e2] using h1, by simpa [List.lookup, e2] using h2, h3⟩
      · exact .inr ⟨by simpa [List.lookup, e2] using h1, by simpa [List.lookup, e2] using h2⟩
theorem lookup_rel2 {α β : Type} {Rr : α → β → Prop} (i : Nat) : ∀ {ws : List (Nat × α)} {us : List (Nat × β)}, Paired (fun (p : Nat × α) (q : Nat × β) => p.1 = q.1 ∧ Rr p.2 q.2) ws us → (∃ a b, ws.lookup i = some a ∧ us.lookup i = some b ∧ Rr a b) ∨ (ws.lookup i = none ∧ us.lookup i = none)
  | _, _, .nil => .inr ⟨rfl, rfl⟩
  | _, _, .cons (a := a) (b := b) h t => by
    obtain ⟨k, x⟩ := a
    obtain ⟨k', y⟩ := b
    obtain ⟨h1, h2⟩ := h
    simp only at h1 h2
    subst h1
    by_cases e : i = k
    · subst e
      exact .inl ⟨x, y, by simp [List.lookup], by simp [List.lookup], h2⟩
    · have e2 : (i == k) = false := by simpa using e
      rcases lookup_rel2 i t with ⟨a', b', h1, h2, h3⟩ | ⟨h1, h2⟩
      · exact .inl ⟨a', b', by simpa [List.lookup, e2] using h1, by simpa [List.lookup, e2] using h2, h3⟩
      · exact .inr ⟨by simpa [List.lookup, e2] using h1, by simpa [List.lookup, e2] using h2⟩
theorem get_rel {α β : Type} {Rr : α → β → Prop} (i : Nat) {ws : List α} {us : List β} (h : Paired Rr ws us) : (∃ a b, ws[i]? = some a ∧ us[i]? = some b ∧ Rr a b) ∨ (ws[i]? = none ∧ us[i]? = none) := by
  induction h generalizing i with
  | nil => exact .inr ⟨by simp, by simp⟩
  | cons h t ih =>
    cases i with
    | zero => exact .inl ⟨_, _, rfl, rfl, h⟩
    | succ i =>
      rcases ih i with ⟨a, b, h1, h2, h3⟩ | ⟨h1, h2⟩
      · exact .inl ⟨a, b, by simpa using h1, by simpa using h2, h3⟩
      · exact .inr ⟨by simpa using h1, by simpa using h2⟩
theorem map_rel {α β : Type} {Rr : α → β → Prop} {f : Nat → α} {k : Nat → β} (h : ∀ i, Rr (f i) (k i)) : ∀ l : List Nat, Paired Rr (l.map f) (l.map k)
  | [] => .nil
  | i :: l => .cons (h i) (map_rel h l)
theorem placed_rel {α β : Type} {Rr : α → β → Prop} {us ws : List α} {us2 ws2 : List β} {df : List (Nat × α)} {df2 : List (Nat × β)} {z : α} {z2 : β} (h1 : Paired Rr us us2) (h2 : Paired Rr ws ws2) (h3 : Paired (fun (p : Nat × α) (q : Nat × β) => p.1 = q.1 ∧ Rr p.2 q.2) df df2) (hz : Rr z z2)
    (np : Nat) (ix : List Nat) : Paired Rr (placed np us ix ws df z) (placed np us2 ix ws2 df2 z2) := by
  refine map_rel (fun i => ?_) _
  rcases get_rel i h1 with ⟨a, b, e1, e2, r⟩ | ⟨e1, e2⟩
  · simp only [e1, e2]; exact r
  · simp only [e1, e2]
    rcases lookup_rel (ix := ix) i h2 with ⟨a, b, e3, e4, r⟩ | ⟨e3, e4⟩
    · simp only [e3, e4]; exact r
    · simp only [e3, e4]
      rcases lookup_rel2 i h3 with ⟨a, b, e5, e6, r⟩ | ⟨e5, e6⟩
      · simp only [e5, e6]; exact r
      · simp only [e5, e6]; exact hz
theorem Dens.paired : ∀ {vs : List V} {l : List D}, Dens B g H vs l → Paired (Den B g H) vs l
  | _, _, .nil => .nil
  | _, _, .cons h t => .cons h (Dens.paired t)
theorem Dens.of_paired : ∀ {vs : List V} {l : List D}, Paired (Den B g H) vs l → Dens B g H vs l
  | _, _, .nil => .nil
  | _, _, .cons h t => .cons h (Dens.of_paired t)
theorem Paired.flip {α β : Type} {F : α → β → Prop} : ∀ {l : List α} {k : List β}, Paired F l k → Paired (fun b a => F a b) k l
  | _, _, .nil => .nil
  | _, _, .cons h t => .cons h (Paired.flip t)
/-- f(e, .., k = v, ..) -/
theorem pz_callk {np : Nat → Option Nat} {sh : Shp → Prop} (F : Fits B G W np sh X) {s : Shp} {c : Nat} {x : Str} {p pos : Pos} {es : List Expr} {kws : List Keyword} {l kl : Cs} (hn : np s.n = some c) (hsh : sh s) (hc : s.np = c) (hg : Gl X x) (hm : ∀ a, B.fa s.n = some a → X.mg x = some (.ref a)) (ha : PA X es (tEvs B G W l))
    (hl : l.len = s.npos) (hkw : KwZ B G W X kws s.ks kl) (hs : es.all notStar = true) (h0 : es = [] → l = .nil) (hd : (x == ("__debug__" : Str)) = false) : PE X (.Call (.Name x p) es kws pos) (tEv B G W (.callk s.n s.np l s.ix kl s.df)) := by
  obtain ⟨k, hr, FN⟩ := F.lv
  obtain ⟨a, fd, ps, f1, f2, f3, f4, f5, f6⟩ := FN.ok s.n c hn
  obtain ⟨vV, vU, ⟨d1, d2⟩, hb⟩ := f6 s hsh rfl hc
  obtain ⟨k1, k2, k3, k4⟩ := hkw.facts (pos := pos) (env := X.env)
  have K := F.K
  rw [← K] at f3 f5 hb
  refine ⟨fun pins st σ H Q I ⟨g, m, e, R, E, p⟩ => wpAny_Call_Name_kw (ld_glob I hg (hm a f1) ?_ hd)⟩
  unfold evalC at p
  have fin : ∀ {s2 : Shared} {us ws : List Value} {vs zs : List V} {H2 : Hp} {g2 : Cfg} {m2 : Mem} {ds es2 : List D} (_ : Inv X pins σ H2 s2) (_ : Vals vs us) (_ : Vals zs ws) (_ : Rl B g2 m2 H2) (_ : EnvR B g2 H2 σ e) (_ : Dens B g2 H2 vs ds) (_ : Dens B g2 H2 zs es2) (_ : ds.length = s.npos) (_ : es2.length = s.ks.length)
      (_ : Post B g2 H2 (W σ e) (fun g' m' H' d => ∀ v, Den B g' H' v d → Q v H') (G s.n (placed s.np ds s.ix es2 s.df .non) m2)), wpAny (model X.prog X.w) X.A (call (.ref a) us (s.ks.zip ws)) (EP X pins σ Q) X.xe s2 := fun {s2 us ws vs zs H2 g2 m2 ds es2} I2 rv rz R2 E2 hv hz l1 l2 q => by
    have r2 : Vals (placed c vs s.ix zs vV .non) (placed c us s.ix ws vU .none) := placed_rel rv rz d2 (show RelV .non .none from rfl) c s.ix
    have dd : Dens B g2 H2 (placed c vs s.ix zs vV .non) (placed s.np ds s.ix es2 s.df .non) := by
      rw [hc]
      refine Dens.of_paired (placed_rel hv.paired hz.paired (Paired.mapP (Paired.flip d1) fun p q z => ⟨z.1.symm, z.2 _ _⟩) .non c s.ix)
    refine run_gk (E := EW B W) f5 hr F.gd (hb s2 us ws I2.kIn (rv.length.symm.trans (hv.length.trans l1)) (rz.length.symm.trans (hz.length.trans l2))) (F.pass σ) I2 r2 (call_read R2 E2 dd ?_ q)
    rw [← hc]
    unfold placed
    rw [List.length_map, List.length_range]
  have kwrun : ∀ {s1 : Shared} {us : List Value} {vs : List V} {H1 : Hp} {g1 : Cfg} {m1 : Mem} {ds : List D} (_ : Inv X pins σ H1 s1) (_ : Vals vs us) (_ : Rl B g1 m1 H1) (_ : EnvR B g1 H1 σ e) (_ : Dens B g1 H1 vs ds) (_ : ds.length = s.npos)
      (_ : Post B g1 H1 (W σ e) (fun g' m' H' d => ∀ v, Den B g' H' v d → Q v H') ((evalCs G kl e m1).bind fun k m => G s.n (placed s.np ds s.ix k s.df .non) m)),
      wpAny (model X.prog X.w) X.A (evalAll ((backToKw pos (keywordEach kws X.env)).map (·.2))) (fun ks s2 => X.K.In s2.heap ∧ wpAny (model X.prog X.w) X.A (call (.ref a) us (((backToKw pos (keywordEach kws X.env)).filterMap (·.1)).zip ks)) (EP X pins σ Q) X.xe s2) X.xe s1 := fun {s1 us vs H1 g1 m1 ds} I1 rv R1 E1 hv l1 q => by
    rw [k3]
    have rd : tEvs B G W kl σ H1 fun zs H2 => ∃ g2 m2 es2, Rl B g2 m2 H2 ∧ Ext g1 H1 g2 H2 ∧ Dens B g2 H2 zs es2 ∧ es2.length = s.ks.length ∧ Post B g2 H2 (W σ e) (fun g' m' H' d => ∀ v, Den B g' H' v d → Q v H') (G s.n (placed s.np ds s.ix es2 s.df .non) m2) :=
      ⟨g1, m1, e, R1, E1, q.bind.imp fun g2 m2 H2 es2 x R2 eq q zs hz => ⟨g2, m2, es2, R2, x, hz, (evalCs_len eq).trans k4.symm, q⟩⟩
    refine thn (hkw.pk.run pos pins s1 σ H1 _ I1 rd) fun ws s2 ⟨zs, H2, I2, rz, g2, m2, es2, R2, x, hz, l2, q2⟩ => ⟨I2.kIn, ?_⟩
    exact fin I2 rv rz R2 (E1.ext x R1) (hv.ext x R1) hz l1 l2 q2
  cases es with
  | nil =>
    obtain rfl := h0 rfl
    rw [evalCs_nil, Out.bind_ok] at p
    refine PySem.W.callWith_KW0 (h₀ := X.base) I.ok.mod.kin f3 k1 ?_ (by rw [k2]; rfl)
    exact kwrun (us := []) I .nil R E .nil (by show 0 = s.npos; exact hl) p
  | cons e1 es =>
    rw [List.all_cons, Bool.and_eq_true] at hs
    have rd : tEvs B G W l σ H fun vs H1 => ∃ g1 m1 ds, Rl B g1 m1 H1 ∧ Ext g H g1 H1 ∧ Dens B g1 H1 vs ds ∧ ds.length = s.npos ∧ Post B g1 H1 (W σ e) (fun g' m' H' d => ∀ v, Den B g' H' v d → Q v H') ((evalCs G kl e m1).bind fun k m => G s.n (placed s.np ds s.ix k s.df .non) m) :=
      ⟨g, m, e, R, E, p.bind.imp fun g1 m1 H1 ds x R1 eq q vs hv => ⟨g1, m1, ds, R1, x, hv, (evalCs_len eq).trans hl, q⟩⟩
    refine PySem.W.callWith_KW (h₀ := X.base) I.ok.mod.kin f3 k1 (thn (ha.run pos pins st σ H _ I rd) fun us s1 ⟨vs, H1, I1, rv, g1, m1, ds, R1, x, hv, l1, q⟩ => ?_) ?_ (star_cons hs.1)
    · exact kwrun I1 rv R1 (E.ext x R) hv l1 q
    · rw [k2, Bool.or_false]
      have hs2 : (e1 :: es).all notStar = true := by rw [List.all_cons, hs.1, hs.2]; rfl
      exact star_none hs2
end Z
/-! ZA: what loops and comprehensions walk; comprehensions. -/
namespace Z
open PySem PySem.Spec PyProof.Rows L2 RZ
variable {B : Bs} {G : Sg} {W : WE} {U : XW} {X : Cx} {g g' g1 g2 : Cfg} {H H' H1 H2 : Hp} {m m' m1 : Mem}

/-- an iterator brings the items of a source, as long as the values vs stand for ds and the source stays -/
structure Serves (B : Bs) (J : It) (S : Src) (vs : List V) (ds : List D) : Prop where
  go : ∀ g m H i, Rl B g m H → Dens B g H vs ds → S.stays m = true → i < S.items.length → J.go i H
  stop : ∀ g m H, Rl B g m H → Dens B g H vs ds → S.stays m = true → J.stop S.items.length H
  yld : ∀ g m H i d x H', Rl B g m H → Dens B g H vs ds → S.stays m = true → S.items[i]? = some d → J.yld i H x H' → Ext g H g H' ∧ Rl B g m H' ∧ Den B g H' x d
/-- the reading of a walk's source -/
def tIt (B : Bs) (G : Sg) (W : WE) (c : C) : TI := fun σ H R => ∃ g m e, Rl B g m H ∧ EnvR B g H σ e ∧
  Post B g H (W σ e) (fun g' m' H' S => ∀ J vs ds, Serves B J S vs ds → Dens B g' H' vs ds → S.stays m' = true → S.items.length ≤ sizeLine → R J H') (evalIt G c e m)
theorem sameL_refl {n : Nat} {l : List D} (h : m[n]? = some (.lst l)) : sameL m n l = true := by
  unfold sameL
  rw [h]
  exact D.sames_refl l
theorem sameL_eq {n : Nat} {l : List D} (h : sameL m n l = true) : m[n]? = some (.lst l) := by
  unfold sameL at h
  cases q : m[n]? with
  | none => rw [q] at h; cases h
  | some mo =>
    rw [q] at h
    cases mo with
    | lst l' => rw [D.sames_eq h]
    | _ => cases h

theorem sqL_items {K : PySem.W.Frag} {xs : List V} {l : List D} {a : Addr} {i : Nat} {d : D} {x : V} (h : SqL K H a xs) (hd : Dens B g H xs l) (hi : l[i]? = some d) (hy : ∀ xs, SqL K H a xs → xs[i]? = some x) : Den B g H x d := by
  obtain ⟨v, h1, h2⟩ := hd.get hi
  rw [hy xs h] at h1
  cases h1
  exact h2
theorem sqT_items {K : PySem.W.Frag} {xs : List V} {l : List D} {a : Addr} {i : Nat} {d : D} {x : V} (h : SqT K H a xs) (hd : Dens B g H xs l) (hi : l[i]? = some d) (hy : ∀ xs, SqT K H a xs → xs[i]? = some x) : Den B g H x d := by
  obtain ⟨v, h1, h2⟩ := hd.get hi
  rw [hy xs h] at h1
  cases h1
  exact h2
/-- what stands of a source at a list's address -/
theorem serves_list {a : Addr} {d : D} {S : Src} (h : ∀ g m H, Rl B g m H → Den B g H (.ref a) d → S.stays m = true → ∃ xs, SqL B.K H a xs ∧ Dens B g H xs S.items) : Serves B (Itl B.K a) S [.ref a] [d] := by
  refine ⟨fun g m H i R hd st hi => ?_, fun g m H R hd st => ?_, fun g m H i d' x H' R hd st hi hy => ?_⟩
  · obtain ⟨v, e, hd⟩ := hd.one
    cases e
    obtain ⟨xs, h1, h2⟩ := h g m H R hd st
    obtain ⟨w', e2, _⟩ := h2.get (List.getElem?_eq_getElem hi)
    exact ⟨xs, w', h1, e2⟩
  · obtain ⟨v, e, hd⟩ := hd.one
    cases e
    obtain ⟨xs, h1, h2⟩ := h g m H R hd st
    exact ⟨xs, h1, Nat.le_of_eq h2.length⟩
  · obtain ⟨v, e, hd⟩ := hd.one
    cases e
    obtain ⟨xs, h1, h2⟩ := h g m H R hd st
    obtain ⟨rfl, hy⟩ := hy
    exact ⟨Ext.refl _ _, R, sqL_items h1 h2 hi hy⟩
theorem serves_tup {a : Addr} {l : List D} : Serves B (Itt B.K a) ⟨l, none⟩ [.ref a] [.tup l] := by
  have h : ∀ {g m H}, Rl B g m H → Dens B g H [.ref a] [.tup l] → ∃ xs, SqT B.K H a xs ∧ Dens B g H xs l := fun {g m H} R hd => by
    obtain ⟨v, e, hd⟩ := hd.one
    cases e
    cases hd with
    | tup h1 h2 => exact ⟨_, h1, h2⟩
  refine ⟨fun g m H i R hd st hi => ?_, fun g m H R hd st => ?_, fun g m H i d' x H' R hd st hi hy => ?_⟩
  · obtain ⟨xs, h1, h2⟩ := h R hd
    obtain ⟨w', e2, _⟩ := h2.get (List.getElem?_eq_getElem hi)
    exact ⟨xs, w', h1, e2⟩
  · obtain ⟨xs, h1, h2⟩ := h R hd
    exact ⟨xs, h1, Nat.le_of_eq h2.length⟩
  · obtain ⟨xs, h1, h2⟩ := h R hd
    obtain ⟨rfl, hy⟩ := hy
    exact ⟨Ext.refl _ _, R, sqT_items h1 h2 hi hy⟩
theorem serves_str {s : Str} : Serves B (Its s) ⟨s.cps.toList.map fun c => D.str ⟨#[c]⟩, none⟩ [] [] := by
  refine ⟨fun g m H i R hd st hi => ?_, fun g m H R hd st => ?_, fun g m H i d' x H' R hd st hi hy => ?_⟩
  · show i < s.cps.size
    simpa using hi
  · show s.cps.size ≤ (s.cps.toList.map fun c => D.str ⟨#[c]⟩).length
    simp
  · obtain ⟨rfl, c, hc, rfl⟩ := hy
    refine ⟨Ext.refl _ _, R, ?_⟩
    simp only [List.getElem?_map, Array.getElem?_toList, hc, Option.map_some, Option.some.injEq] at hi
    subst hi
    exact .str _
theorem serves_rng {n : Int} : Serves B (Itr 0 n.toNat) ⟨(List.range n.toNat).map fun (k : Nat) => D.int (k : Int), none⟩ [] [] := by
  refine ⟨fun g m H i R hd st hi => ?_, fun g m H R hd st => ?_, fun g m H i d' x H' R hd st hi hy => ?_⟩
  · show i < n.toNat
    simpa using hi
  · show n.toNat ≤ ((List.range n.toNat).map fun (k : Nat) => D.int (k : Int)).length
    simp
  · obtain ⟨rfl, rfl⟩ := hy
    refine ⟨Ext.refl _ _, R, ?_⟩
    rw [List.getElem?_map] at hi
    obtain ⟨k, h1, h2⟩ := Option.map_eq_some_iff.mp hi
    rw [List.getElem?_range (by
      have := (List.getElem?_eq_some_iff.mp h1).1
      simpa using this)] at h1
    cases h1
    subst h2
    rw [Int.zero_add]
    exact .int _
theorem zip_get {α β : Type} {x : List α} {y : List β} {i : Nat} {p : α × β} (h : (x.zip y)[i]? = some p) : x[i]? = some p.1 ∧ y[i]? = some p.2 := by
  rw [List.getElem?_zip_eq_some] at h
  exact h
theorem serves_zipT {a b : Addr} {k l : List D} : Serves B (ItzT B.K a b) ⟨(k.zip l).map fun p => D.tup [p.1, p.2], none⟩ [.ref a, .ref b] [.tup k, .tup l] := by
  have h : ∀ {g m H}, Rl B g m H → Dens B g H [.ref a, .ref b] [.tup k, .tup l] → ∃ xs ys, SqT B.K H a xs ∧ Dens B g H xs k ∧ SqT B.K H b ys ∧ Dens B g H ys l := fun {g m H} R hd => by
    obtain ⟨v, w, e, h1, h2⟩ := hd.two
    cases e
    cases h1 with
    | tup h1 h2' =>
      cases h2 with
      | tup h3 h4 => exact ⟨_, _, h1, h2', h3, h4⟩
  refine ⟨fun g m H i R hd st hi => ?_, fun g m H R hd st => ?_, fun g m H i d' x H' R hd st hi hy => ?_⟩
  · obtain ⟨xs, ys, h1, h2, h3, h4⟩ := h R hd
    have hi : i < ((k.zip l).map fun p => D.tup [p.1, p.2]).length := hi
    rw [List.length_map, List.length_zip] at hi
    obtain ⟨v, e1, _⟩ := h2.get (List.getElem?_eq_getElem (show i < k.length by omega))
    obtain ⟨w', e2, _⟩ := h4.get (List.getElem?_eq_getElem (show i < l.length by omega))
    exact ⟨xs, ys, v, w', h1, h3, e1, e2⟩
  · obtain ⟨xs, ys, h1, h2, h3, h4⟩ := h R hd
    refine ⟨xs, ys, h1, h3, ?_⟩
    show xs.length ≤ ((k.zip l).map fun p => D.tup [p.1, p.2]).length ∨ ys.length ≤ ((k.zip l).map fun p => D.tup [p.1, p.2]).length
    rw [List.length_map, List.length_zip, h2.length, h4.length]
    omega
  · obtain ⟨xs, ys, h1, h2, h3, h4⟩ := h R hd
    obtain ⟨T, x1, x2, rfl, nT, rfl, f1, f2⟩ := hy
    rw [List.getElem?_map] at hi
    obtain ⟨p, hp, rfl⟩ := Option.map_eq_some_iff.mp hi
    obtain ⟨p1, p2⟩ := zip_get hp
    have x := Ext.upd R (o := .tup [x1, x2]) nT
    refine ⟨x, Rl.upd R nT, .tup (SqT.of upd_same) (.cons ?_ (.cons ?_ .nil))⟩
    · exact (sqT_items h1 h2 p1 f1).ext x R
    · exact (sqT_items h3 h4 p2 f2).ext x R
theorem serves_zipL {a b : Addr} {k l : List D} : Serves B (Itz B.K a b) ⟨(k.zip l).map fun p => D.tup [p.1, p.2], none⟩ [.ref a, .ref b] [.lst k, .lst l] := by
  have h : ∀ {g m H}, Rl B g m H → Dens B g H [.ref a, .ref b] [.lst k, .lst l] → ∃ xs ys, SqL B.K H a xs ∧ Dens B g H xs k ∧ SqL B.K H b ys ∧ Dens B g H ys l := fun {g m H} R hd => by
    obtain ⟨v, w, e, h1, h2⟩ := hd.two
    cases e
    cases h1 with
    | lst _ h1 h2' =>
      cases h2 with
      | lst _ h3 h4 => exact ⟨_, _, SqL.of h1, h2', SqL.of h3, h4⟩
  refine ⟨fun g m H i R hd st hi => ?_, fun g m H R hd st => ?_, fun g m H i d' x H' R hd st hi hy => ?_⟩
  · obtain ⟨xs, ys, h1, h2, h3, h4⟩ := h R hd
    have hi : i < ((k.zip l).map fun p => D.tup [p.1, p.2]).length := hi
    rw [List.length_map, List.length_zip] at hi
    obtain ⟨v, e1, _⟩ := h2.get (List.getElem?_eq_getElem (show i < k.length by omega))
    obtain ⟨w', e2, _⟩ := h4.get (List.getElem?_eq_getElem (show i < l.length by omega))
    exact ⟨xs, ys, v, w', h1, h3, e1, e2⟩
  · obtain ⟨xs, ys, h1, h2, h3, h4⟩ := h R hd
    refine ⟨xs, ys, h1, h3, ?_⟩
    show xs.length ≤ ((k.zip l).map fun p => D.tup [p.1, p.2]).length ∨ ys.length ≤ ((k.zip l).map fun p => D.tup [p.1, p.2]).length
    rw [List.length_map, List.length_zip, h2.length, h4.length]
    omega
  · obtain ⟨xs, ys, h1, h2, h3, h4⟩ := h R hd
    obtain ⟨T, x1, x2, rfl, nT, rfl, f1, f2⟩ := hy
    rw [List.getElem?_map] at hi
    obtain ⟨p, hp, rfl⟩ := Option.map_eq_some_iff.mp hi
    obtain ⟨p1, p2⟩ := zip_get hp
    have x := Ext.upd R (o := .tup [x1, x2]) nT
    refine ⟨x, Rl.upd R nT, .tup (SqT.of upd_same) (.cons ?_ (.cons ?_ .nil))⟩
    · exact (sqL_items h1 h2 p1 f1).ext x R
    · exact (sqL_items h3 h4 p2 f2).ext x R

/-! ### sources of the text -/
theorem piI {tg e : Expr} {t t' : TI} (h : PI X tg e t) (i : ∀ σ H Q, t' σ H Q → t σ H Q) : PI X tg e t' := ⟨fun pins s σ H Q I q => h.run pins s σ H Q I (i σ H Q q)⟩
/-- codes that are evaluated, then walked -/
def plainIt : Z.C → Bool
  | .rng _ => false
  | .zip _ _ => false
  | _ => true
theorem evalIt_plain {c : Z.C} (h : plainIt c = true) (e : Env) (m : Mem) : evalIt G c e m = (evalC G c e m).bind fun d m => lift (srcOf m d) m := by
  cases c <;> first | (exact absurd h (by decide)) | (unfold evalIt; rfl) | (simp [plainIt] at h)
theorem iz_plain (cx : Ctx B X) {tg e : Expr} {c : Z.C} (h : PE X e (tEv B G W c)) (hp : plainIt c = true) : PI X tg e (tIt B G W c) := by
  refine ⟨fun pins s σ H R I ⟨g, m, ev, Rr, E, p⟩ => ?_⟩
  rw [evalIt_plain hp] at p
  refine thn (h.run pins s σ H _ I ⟨g, m, ev, Rr, E, p.bind.imp fun g1 m1 H1 d x R1 _ q v hv => (show ∃ g1 m1 d, Rl B g1 m1 H1 ∧ Den B g1 H1 v d ∧ Post B g1 H1 (W σ ev) (fun g' m' H' S => ∀ J vs ds, Serves B J S vs ds → Dens B g' H' vs ds → S.stays m' = true → S.items.length ≤ sizeLine → R J H') (lift (srcOf m1 d) m1) from ⟨g1, m1, d, R1, hv, q⟩)⟩) fun u s1 ⟨v, H1, I1, rv, g1, m1, d, R1, hv, q⟩ => ?_
  obtain ⟨S, eS, q⟩ := q.lifted
  have q := q g1 H1 (Ext.refl _ _) R1
  have K := cx.K
  have lists : ∀ {a : Addr} {xs : List V}, v = .ref a → SqL X.K H1 a xs → xs.length = S.items.length → Serves B (Itl B.K a) S [.ref a] [d] → Den B g1 H1 (.ref a) d → S.stays m1 = true → wpAny (model X.prog X.w) X.A (pyIter u) (PIE X pins σ tg R) X.xe s1 := fun {a xs} ev hx hlen sv hd st => by
    subst ev
    cases rv
    obtain ⟨its, rr, pl, hz⟩ := I1.list hx
    refine wpAny_pyIter_list pl.isList (pi_one (tk := s1.toks) I1 _ (turn_list a _) ⟨_, Heap.get?_push_size _ rfl, rfl, rfl⟩ ?_)
    rw [K]
    exact q _ _ _ sv (.cons hd .nil) st (by rw [← hlen]; exact hz)
  cases d with
  | str z =>
    have hz : z.length ≤ sizeLine := by
      by_cases hz : z.length ≤ sizeLine
      · exact hz
      · simp [srcOf, hz] at eS
    simp only [srcOf, if_pos hz, Option.some.injEq] at eS
    subst eS
    cases hv
    obtain ⟨t, rfl⟩ := rv
    have qq := q (Its z) [] [] serves_str .nil rfl (by simpa [Str.length] using hz)
    cases ha : z.cps.all (· < 128) with
    | false => exact wpAny_pyIter_wide ha (pi_one (tk := s1.toks) I1 _ (turn_str _ z t "str_iterator" (.inr rfl)) ⟨_, Heap.get?_push_size _ rfl, rfl, rfl⟩ qq)
    | true => exact wpAny_pyIter_ascii ha (pi_one (tk := s1.toks) I1 _ (turn_str _ z t "str_ascii_iterator" (.inl rfl)) ⟨_, Heap.get?_push_size _ rfl, rfl, rfl⟩ qq)
  | loc n =>
    simp only [srcOf] at eS
    cases q1 : m1[n]? with
    | none => rw [q1] at eS; cases eS
    | some mo =>
      rw [q1] at eS
      cases mo with
      | lst l =>
        cases eS
        cases id hv with
        | @loc a _ ha =>
          obtain ⟨xs, h1, h2⟩ := R1.mem n a _ ha q1
          refine lists rfl (SqL.of h1) h2.length (serves_list fun g m H R hd st => ?_) hv (sameL_refl q1)
          cases hd with
          | loc hb =>
            obtain ⟨xs, k1, k2⟩ := R.mem n _ _ hb (sameL_eq st)
            exact ⟨xs, SqL.of k1, k2⟩
      | _ => cases eS
  | lst l =>
    cases eS
    cases id hv with
    | lst f h1 h2 =>
      refine lists rfl (SqL.of h1) h2.length (serves_list fun g m H R hd st => ?_) hv rfl
      cases hd with
      | lst f k1 k2 => exact ⟨_, SqL.of k1, k2⟩
  | scr l =>
    cases eS
    cases id hv with
    | scr h1 =>
      refine lists rfl (.inl (.inr ⟨_, h1⟩)) (by simp) (serves_list fun g m H R hd st => ?_) hv rfl
      cases hd with
      | scr k1 => exact ⟨_, .inl (.inr ⟨_, k1⟩), Dens.of_ints _⟩
      | scrK k1 => exact ⟨_, k1 H, Dens.of_ints _⟩
    | scrK h1 =>
      refine lists rfl (plainL K (h1 H1)) (by simp) (serves_list fun g m H R hd st => ?_) hv rfl
      cases hd with
      | scr k1 => exact ⟨_, .inl (.inr ⟨_, k1⟩), Dens.of_ints _⟩
      | scrK k1 => exact ⟨_, k1 H, Dens.of_ints _⟩
  | tup l =>
    cases eS
    cases id hv with
    | @tup a xs _ h1 h2 =>
      cases rv
      obtain ⟨its, rr, pl, hz⟩ := I1.tuple (plainT K h1)
      refine wpAny_pyIter_tuple (show s1.heap.IsTuple a its.toArray from pl) (pi_one (tk := s1.toks) I1 _ (turn_tuple a _) ⟨_, Heap.get?_push_size _ rfl, rfl, rfl⟩ ?_)
      rw [K]
      exact q _ _ _ serves_tup (.cons hv .nil) rfl (by rw [← h2.length]; exact hz)
  | _ => simp [srcOf, Z.rdS] at eS
theorem iz_rng {tg a : Expr} {c : Z.C} {p pos : Pos} (h : PE X a (tEv B G W c)) (hg : Gl X "range") (hm : X.mg "range" = none) (hs : notStar a = true) : PI X tg (.Call (.Name "range" p) [a] [] pos) (tIt B G W (.rng c)) := by
  have ha : PA X [a] (tEvs B G W (.cons c .nil)) := az_cons h az_nil (star_cons hs)
  refine piI (pi_range1 hg hm ha (star_cons hs)) fun σ H R ⟨g, m, e, Rr, E, p⟩ => ⟨g, m, e, Rr, E, ?_⟩
  unfold evalIt at p
  unfold evalCs
  cases h1 : evalC G c e m with
  | bad => rw [h1] at p; exact p
  | exc x m' => rw [h1] at p; exact p
  | ok d m1 =>
    rw [h1] at p
    rw [Out.bind_ok, evalCs_nil, Out.bind_ok]
    intro g1 H1 x R1 vs hvs
    have p := Post.ext x p
    obtain ⟨v, rfl, hv⟩ := hvs.one
    cases d with
    | int n =>
      rw [Out.bind_ok] at p
      simp only at p
      split at p
      · rename_i hz
        cases hv
        have hn : (sizeLine : Int) = 16777216 := by rw [sizeLine_eq]; rfl
        have qq := p.ok0 R1 (Itr 0 n.toNat) [] [] serves_rng .nil rfl (by rw [List.length_map, List.length_range]; omega)
        exact ⟨n, rfl, hz.1, by omega, qq⟩
      · exact p.elim
    | _ => exact p.elim
end Z
/-! ZB: zip, targets, comprehensions. -/
namespace Z
open PySem PySem.Spec PyProof.Rows L2 RZ
variable {B : Bs} {G : Sg} {W : WE} {U : XW} {X : Cx} {g g' g1 g2 : Cfg} {H H' H1 H2 : Hp} {m m' m1 : Mem}

/-- every list and tuple that stands is of a size -/
def Sized (K : PySem.W.Frag) (H : Hp) : Prop := ∀ a xs, (SqL K H a xs ∨ SqT K H a xs) → xs.length ≤ sizeLine
theorem pa_sized {es : List Expr} {t : TA} (h : PA X es t) : PA X es (fun σ H Q => t σ H fun vs H1 => Sized X.K H1 → Q vs H1) :=
  ⟨fun pos pins s σ H Q I q => thn (h.run pos pins s σ H _ I q) fun us s1 ⟨vs, H1, I1, rv, q1⟩ => ⟨vs, H1, I1, rv, q1 fun a xs z => by
    rcases z with z | z
    · obtain ⟨_, _, _, e⟩ := I1.list z; exact e
    · obtain ⟨_, _, _, e⟩ := I1.tuple z; exact e⟩⟩
theorem iz_zip (cx : Ctx B X) {e1 e2 : Expr} {c1 c2 : Z.C} {p pos tpos : Pos} {elts : List Expr} {kk : Nat} (h1 : PE X e1 (tEv B G W c1)) (h2 : PE X e2 (tEv B G W c2)) (hg : Gl X "zip") (hm : X.mg "zip" = none) (n1 : notStar e1 = true) (n2 : notStar e2 = true) :
    PI X (.Tuple elts kk tpos) (.Call (.Name "zip" p) [e1, e2] [] pos) (tIt B G W (.zip c1 c2)) := by
  have ha : PA X [e1, e2] (tEvs B G W (.cons c1 (.cons c2 .nil))) := az_cons h1 (az_cons h2 az_nil (star_cons n2)) (star_cons n1)
  refine piI (pi_zipA hg hm (pa_sized ha) (star_cons n1) (star_none (by rw [List.all_cons, n2]; rfl))) fun σ H R ⟨g, m, e, Rr, E, p⟩ => ⟨g, m, e, Rr, E, ?_⟩
  unfold evalIt at p
  unfold evalCs
  refine Post.imp (R := fun g' m' H' ds => ∃ a b, ds = [a, b] ∧ Post B g' H' (W σ e) (fun g' m' H' S => ∀ J vs ds, Serves B J S vs ds → Dens B g' H' vs ds → S.stays m' = true → S.items.length ≤ sizeLine → R J H') (lift (zipS m' a b) m')) ?_ fun g1 m1 H1 ds x R1 _ ⟨a, b, e1, q⟩ vs hvs sz => ?_
  · cases k1 : evalC G c1 e m with
    | bad => rw [k1] at p; exact p
    | exc x m' => rw [k1] at p; exact p
    | ok a m1 =>
      rw [k1, Out.bind_ok] at p
      rw [Out.bind_ok]
      unfold evalCs
      cases k2 : evalC G c2 e m1 with
      | bad => rw [k2] at p; exact p
      | exc x m' => rw [k2] at p; exact p
      | ok b m2 =>
        rw [k2, Out.bind_ok] at p
        rw [Out.bind_ok, evalCs_nil, Out.bind_ok, Out.bind_ok]
        exact fun g' H' x r => ⟨a, b, rfl, Post.ext x p⟩
  · subst e1
    obtain ⟨S, eS, q⟩ := q.lifted
    have q := q g1 H1 (Ext.refl _ _) R1
    obtain ⟨v, w, rfl, hv, hw⟩ := hvs.two
    have K := cx.K
    rw [K]
    unfold zipS at eS
    cases hv with
    | @tup a xs l hx1 hx2 =>
      cases hw with
      | @tup b ys k hy1 hy2 =>
        refine ⟨a, b, xs, ys, rfl, .inr ⟨hx1, hy1, ?_⟩⟩
        have s1 := sz a xs (.inr (by rw [K]; exact hx1))
        cases eS
        exact q _ _ _ serves_zipT (.cons (.tup hx1 hx2) (.cons (.tup hy1 hy2) .nil)) rfl (by
          have hh : xs.length = l.length := hx2.length
          simp only [List.length_map, List.length_zip]
          omega)
      | _ => simp at eS
    | @lst a xs l f1 hx1 hx2 =>
      cases hw with
      | @lst b ys k f2 hy1 hy2 =>
        refine ⟨a, b, xs, ys, rfl, .inl ⟨SqL.of hx1, SqL.of hy1, ?_⟩⟩
        have s1 := sz a xs (.inl (SqL.of hx1))
        cases eS
        exact q _ _ _ serves_zipL (.cons (.lst f1 hx1 hx2) (.cons (.lst f2 hy1 hy2) .nil)) rfl (by
          have hh : xs.length = l.length := hx2.length
          simp only [List.length_map, List.length_zip]
          omega)
      | _ => simp at eS
    | _ => simp at eS

/-! ### targets -/
def T.ixs : T → List Nat
  | .nm i => [i]
  | .tp is => is
/-- slots forgotten that differ alone -/
def SameBut (σ2 σ : L2.St) (is : List Nat) : Prop := ∀ vs : List Nat, (∀ i ∈ is, i ∈ vs) → L2.wipe σ2 vs = L2.wipe σ vs
theorem wipe_set {σ : L2.St} {i : Nat} {o : Option V} : ∀ {vs : List Nat}, i ∈ vs → L2.wipe (σ.set i o) vs = L2.wipe σ vs
  | [], h => (by simp at h)
  | v :: vs, h => by
    have push : ∀ {σ : L2.St} {o : Option V} (vs : List Nat) (i : Nat), i ∉ vs → L2.wipe (σ.set i o) vs = (L2.wipe σ vs).set i o := by
      intro σ o vs
      induction vs with
      | nil => intros; rfl
      | cons w ws ih =>
        intro i hi
        simp only [List.mem_cons, not_or] at hi
        unfold L2.wipe
        rw [ih i hi.2, List.set_comm _ _ hi.1]
    unfold L2.wipe
    by_cases hv : i ∈ vs
    · rw [wipe_set hv]
    · have e : i = v := by
        rcases List.mem_cons.mp h with h | h
        · exact h
        · exact absurd h hv
      subst e
      rw [push vs i hv, List.set_set]
theorem wipe_gone {σ : L2.St} : ∀ (vs : List Nat) (i : Nat), i ∈ vs → (L2.wipe σ vs).set i none = L2.wipe σ vs
  | [], i, hi => by simp at hi
  | w :: ws, i, hi => by
    unfold L2.wipe
    by_cases ew : i = w
    · subst ew; rw [List.set_set]
    · rw [List.set_comm _ _ (Ne.symm ew), wipe_gone ws i (by
        rcases List.mem_cons.mp hi with h | h
        · exact absurd h ew
        · exact h)]
theorem wipe_two {σ : L2.St} {own : List Nat} : ∀ ws : List Nat, (∀ i ∈ ws, i ∈ own) → L2.wipe (L2.wipe σ own) ws = L2.wipe σ own
  | [], _ => rfl
  | w :: ws, hw => by
    have q : L2.wipe (L2.wipe σ own) ws = L2.wipe σ own := wipe_two ws fun i hi => hw i (List.mem_cons_of_mem _ hi)
    show (L2.wipe (L2.wipe σ own) ws).set w none = _
    rw [q]
    exact wipe_gone own w (hw w (List.mem_cons_self ..))
theorem SameBut.set {σ2 σ : L2.St} {is : List Nat} {i : Nat} {o : Option V} (h : SameBut σ2 (σ.set i o) is) : SameBut σ2 σ (i :: is) := fun vs hv => by
  rw [h vs fun j hj => hv j (List.mem_cons_of_mem _ hj), wipe_set (hv i (List.mem_cons_self ..))]
def tG (B : Bs) (t : T) : TG := fun v σ H k => ∃ g m e d e', Rl B g m H ∧ EnvR B g H σ e ∧ Den B g H v d ∧ t.bind d e = some e' ∧ ∀ σ2, EnvR B g H σ2 e' → SameBut σ2 σ t.ixs → k σ2 H
theorem pgI {tg : Expr} {t t' : TG} (h : PG X tg t) (i : ∀ v σ H Q, t' v σ H Q → t v σ H Q) : PG X tg t' := ⟨fun pins s σ H v u Q I r q => h.run pins s σ H v u Q I r (i v σ H Q q)⟩
theorem pgsI {tg : List Expr} {t t' : TGs} (h : PGs X tg t) (i : ∀ v σ H Q, t' v σ H Q → t v σ H Q) : PGs X tg t' := ⟨fun pins s σ H v u Q I r q => h.run pins s σ H v u Q I r (i v σ H Q q)⟩
/-- a name of the place -/
structure NmAt (X : Cx) (i : Nat) (x : Str) : Prop where
  ix : X.N[i]? = some x
  lc : Loc X.env.scope x
  fn : X.fn x = true ∨ X.env.scope.names.lookup x = some .local
theorem gz_name (cx : Ctx B X) {i : Nat} {x : Str} {pos : Pos} (n : NmAt X i x) : PG X (.Name x pos) (tG B (.nm i)) := by
  refine pgI (pg_name cx.nd n.ix n.lc n.fn) fun v σ H Q ⟨g, m, e, d, e', R, E, hv, hb, k⟩ => ?_
  simp only [T.bind, Option.some.injEq] at hb
  subst hb
  exact k _ (E.set i hv) fun vs hv => wipe_set (hv i (List.mem_cons_self ..))
def tGs (B : Bs) (is : List Nat) : TGs := fun vs σ H k => ∃ g m e ds e', Rl B g m H ∧ EnvR B g H σ e ∧ Dens B g H vs ds ∧ setAll is ds e = some e' ∧ ∀ σ2, EnvR B g H σ2 e' → SameBut σ2 σ is → k σ2 H
inductive NmsAt (X : Cx) : List Expr → List Nat → Prop
  | nil : NmsAt X [] []
  | cons {x : Str} {pos : Pos} {i : Nat} {es : List Expr} {is : List Nat} : NmAt X i x → NmsAt X es is → NmsAt X (.Name x pos :: es) (i :: is)
theorem NmsAt.pgs (cx : Ctx B X) {es : List Expr} {is : List Nat} (h : NmsAt X es is) : PGs X es (tGs B is) ∧ (assignEach es X.env).length = is.length ∧ (assignEach es X.env).findIdx? (·.1) = none := by
  induction h with
  | nil =>
    refine ⟨pgsI pgs_nil fun vs σ H Q ⟨g, m, e, ds, e', R, E, hv, hb, k⟩ => ?_, rfl, rfl⟩
    cases ds with
    | nil =>
      cases hv
      cases hb
      exact ⟨rfl, k _ E fun _ _ => rfl⟩
    | cons d ds => cases hb
  | @cons x pos i es is n t ih =>
    obtain ⟨h1, h2, h3⟩ := ih
    refine ⟨pgsI (pgs_cons (pg_name (pos := pos) cx.nd n.ix n.lc n.fn) h1) fun vs σ H Q ⟨g, m, e, ds, e', R, E, hv, hb, k⟩ => ?_, ?_, ?_⟩
    · cases ds with
      | nil => cases hb
      | cons d ds =>
        cases hv with
        | cons hv hvs =>
          exact ⟨_, _, rfl, g, m, _, ds, e', R, E.set i hv, hvs, hb, fun σ2 E2 s2 => k σ2 E2 s2.set⟩
    · show (assignEach es X.env).length + 1 = is.length + 1
      rw [h2]
    · show List.findIdx? (·.1) ((false, assign (.Name x pos) X.env) :: assignEach es X.env) = none
      rw [List.findIdx?_cons, h3]
      rfl
theorem setAll_len : ∀ {is : List Nat} {ds : List D} {e e' : Env}, setAll is ds e = some e' → ds.length = is.length
  | [], [], _, _, _ => rfl
  | i :: is, d :: ds, e, e', h => by
    rw [List.length_cons, List.length_cons, setAll_len (is := is) (ds := ds) (by simpa [setAll] using h)]
  | [], _ :: _, _, _, h => by simp [setAll] at h
  | _ :: _, [], _, _, h => by simp [setAll] at h
theorem gz_tup (cx : Ctx B X) {es : List Expr} {is : List Nat} {k : Nat} {pos : Pos} (n : NmsAt X es is) : PG X (.Tuple es k pos) (tG B (.tp is)) := by
  obtain ⟨h1, h2, h3⟩ := n.pgs cx
  refine pgI (pg_tup cx.calm h1 h2 h3) fun v σ H Q ⟨g, m, e, d, e', R, E, hv, hb, k⟩ => ?_
  rw [cx.K]
  cases hv with
  | tup hs hd =>
    refine ⟨_, _, rfl, hs, ?_, g, m, e, _, e', R, E, hd, hb, k⟩
    rw [hd.length]
    exact setAll_len hb
  | _ => simp [T.bind] at hb

/-! ### comprehensions -/
def tIfs (B : Bs) (G : Sg) (W : WE) (l : Cs) : TT := fun σ H Q => ∃ g m e, Rl B g m H ∧ EnvR B g H σ e ∧
  Post B g H (W σ e) (fun g' m' H' k => Q k H') (evalIfs G l e m)
theorem ptsI {es : List Expr} {t t' : TT} (h : PTs X es t) (i : ∀ σ H Q, t' σ H Q → t σ H Q) : PTs X es t' := ⟨fun pins s σ H Q I q => h.run pins s σ H Q I (i σ H Q q)⟩
theorem fz_nil : PTs X [] (tIfs B G W .nil) := by
  refine ptsI pts_nil fun σ H Q ⟨g, m, e, R, E, p⟩ => ?_
  unfold evalIfs at p
  exact p.ok0 R
theorem fz_one {c : Expr} {z : Z.C} (h : PT X c (tEvT B G W z)) : PTs X [c] (tIfs B G W (.cons z .nil)) := by
  refine ptsI (pts_one h) fun σ H Q ⟨g, m, e, R, E, p⟩ => ⟨g, m, e, R, E, ?_⟩
  unfold evalT
  unfold evalIfs at p
  cases h1 : evalC G z e m with
  | bad => rw [h1] at p; exact p
  | exc x m' => rw [h1] at p; exact p
  | ok d m1 =>
    rw [h1, Out.bind_ok] at p
    rw [Out.bind_ok]
    cases h2 : asBl d m1 with
    | bad => rw [h2] at p; exact p
    | exc x m' => rw [h2] at p; exact p
    | ok k m2 =>
      rw [h2, Out.bind_ok] at p
      cases k with
      | true =>
        simp only [if_true] at p
        unfold evalIfs at p
        exact p
      | false => exact p
def XF : WE := fun _ _ _ _ _ _ => False
theorem Ext.was (x : Ext g H g' H') {a : Addr} (h : H' a = none) : H a = none := by
  cases e : H a with
  | none => rfl
  | some o => exact absurd h (x.trk a (by rw [e]; simp))
/-- what stands new at p since g H is changed -/
theorem Ext.later (x : Ext g H g' H') {p : Addr} (hp : H p = none) {o : HO} : Ext g H g' (L2.upd H' p o) :=
  ⟨x.pre, x.sub, fun a o' h hn => by rw [upd_ne (ne_of_none h hp)]; exact x.keep a o' h hn, x.newF, x.newA, fun a h => by
    by_cases e : a = p
    · subst e; rw [upd_same]; simp
    · rw [upd_ne e]; exact x.trk a h⟩
theorem lc_read {it elt : Z.C} {t : T} {ifs : Cs} {own : List Nat} {σ : L2.St} {H : Hp} {Q : VK} (ho : ∀ i ∈ t.ixs, i ∈ own) (h : tEvF B G W (.comp own elt t it ifs) σ H Q) : tLc (tIt B G W it) (tG B t) (tIfs B G XF ifs) (tEv B G XF elt) own σ H Q := by
  obtain ⟨g, m, e, R, E, p⟩ := h
  refine ⟨g, m, e, R, E, ?_⟩
  unfold evalC at p
  cases hE : evalIt G it e m with
  | bad => rw [hE] at p; exact p
  | exc x m' => rw [hE] at p; exact p
  | ok S m1 =>
  rw [hE, Out.bind_ok] at p
  intro g1 H1 x1 R1 J vs ds sv hd st0 sz D hD
  cases hG : compGo S.stays (fun e m => evalC G elt e m) (fun e m => evalIfs G ifs e m) t S.items (Z.wipe e own) m1 with
  | bad => rw [hG] at p; exact p.elim
  | exc x m' => rw [hG] at p; exact p.elim
  | ok ys mE =>
  rw [hG, Out.calm_ok, Out.bind_ok] at p
  have E1 := E.ext x1 R
  have nf : ¬ g1.fz D := fun z => by obtain ⟨xs, q⟩ := R1.trk D z; rw [hD] at q; cases q
  refine ⟨fun i k Hc => k = S.items.length - i ∧ ∃ g' m' acc tail xs, Rl B g' m' Hc ∧ Ext g1 H1 g' Hc ∧ D ∉ g'.al ∧ ¬ g'.fz D ∧ Hc D = some (.lst xs) ∧ Dens B g' Hc xs acc ∧ acc.length ≤ i ∧ i ≤ S.items.length ∧
    compGo S.stays (fun e m => evalC G elt e m) (fun e m => evalIfs G ifs e m) t (S.items.drop i) (Z.wipe e own) m' = .ok tail mE ∧ acc ++ tail = ys,
    ⟨_, rfl, g1, m1, [], ys, [], Rl.upd R1 hD, Ext.upd R1 hD, R1.notIn hD, nf, upd_same, .nil, Nat.zero_le _, Nat.zero_le _, hG, rfl⟩, ?_⟩
  rintro i k Hc ⟨rfl, g', m', acc, tail, xs, R', x', na', nf', hx, hxs, hlen, hi, go, ey⟩
  have hds := (hd.ext x' R1)
  have E' : EnvR B g' Hc (L2.wipe σ own) (Z.wipe e own) := (E1.ext x' R1).wipe own
  by_cases hlt : i < S.items.length
  · right
    rw [List.drop_eq_getElem_cons hlt] at go
    unfold compGo at go
    by_cases hst : S.stays m' = true
    · rw [if_pos hst] at go
      refine ⟨sv.go g' m' Hc i R' hds hst hlt, fun H' => ∃ k', k' < S.items.length - i ∧ k' = S.items.length - (i + 1) ∧ ∃ g' m' acc tail xs, Rl B g' m' H' ∧ Ext g1 H1 g' H' ∧ D ∉ g'.al ∧ ¬ g'.fz D ∧ H' D = some (.lst xs) ∧ Dens B g' H' xs acc ∧ acc.length ≤ i + 1 ∧ i + 1 ≤ S.items.length ∧
    compGo S.stays (fun e m => evalC G elt e m) (fun e m => evalIfs G ifs e m) t (S.items.drop (i + 1)) (Z.wipe e own) m' = .ok tail mE ∧ acc ++ tail = ys, fun H' ⟨k', h1, h2⟩ => ⟨k', h1, h2⟩, fun v Hy hy => ?_⟩
      obtain ⟨xy, Ry, hv⟩ := sv.yld g' m' Hc i _ v Hy R' hds hst (List.getElem?_eq_getElem hlt) hy
      cases hb : t.bind S.items[i] (Z.wipe e own) with
      | none => rw [hb] at go; cases go
      | some e2 =>
      rw [hb] at go
      dsimp only at go
      refine ⟨g', m', Z.wipe e own, _, e2, Ry, E'.ext xy R', hv, hb, fun σ2 E2 s2 => ⟨s2 own ho |>.trans ?_, ?_⟩⟩
      · exact wipe_two own fun _ h => h
      · refine ⟨g', m', e2, Ry, E2, ?_⟩
        cases hI : evalIfs G ifs e2 m' with
        | bad => rw [hI] at go; cases go
        | exc x m2 => rw [hI] at go; cases go
        | ok b m2 =>
        rw [hI, Out.bind_ok] at go
        intro g2 H2 x2 R2
        have y2 := xy.trans x2
        have hx2 : H2 D = some (.lst xs) := y2.keep D _ hx na'
        have na2 : D ∉ g2.al := fun z => (y2.newA D z).elim na' fun z => by rw [hx] at z; cases z
        have nf2 : ¬ g2.fz D := fun z => (y2.newF D z).elim nf' fun z => by rw [hx] at z; cases z
        cases b with
        | false =>
          simp only [Bool.false_eq_true, if_false] at go ⊢
          exact ⟨_, by omega, rfl, g2, m2, acc, tail, xs, R2, x'.trans y2, na2, nf2, hx2, hxs.ext y2 R', by omega, hlt, go, ey⟩
        | true =>
          simp only [if_true] at go ⊢
          refine ⟨g2, m2, e2, R2, E2.ext x2 Ry, ?_⟩
          cases hC : evalC G elt e2 m2 with
          | bad => rw [hC] at go; cases go
          | exc x m3 => rw [hC] at go; cases go
          | ok d m3 =>
          rw [hC, Out.bind_ok] at go
          cases hT : compGo S.stays (fun e m => evalC G elt e m) (fun e m => evalIfs G ifs e m) t (S.items.drop (i + 1)) (Z.wipe e own) m3 with
          | bad => rw [hT] at go; cases go
          | exc x m4 => rw [hT] at go; cases go
          | ok tl m4 =>
          rw [hT, Out.bind_ok] at go
          cases go
          intro g3 H3 x3 R3 w hw
          have y3 := y2.trans x3
          have hx3 : H3 D = some (.lst xs) := y3.keep D _ hx na'
          have na3 : D ∉ g3.al := fun z => (y3.newA D z).elim na' fun z => by rw [hx] at z; cases z
          have nf3 : ¬ g3.fz D := fun z => (y3.newF D z).elim nf' fun z => by rw [hx] at z; cases z
          have hxs3 := hxs.ext y3 R'
          obtain ⟨mo, R4⟩ := R3.updOut (o := .lst (xs ++ [w])) hx3 rfl na3 nf3
          refine ⟨xs, hx3, by rw [hxs.length]; omega, _, by omega, rfl, g3, m3, acc ++ [d], tl, xs ++ [w], R4, (x'.trans y3).later hD, na3, nf3, upd_same, (hxs3.append (.cons hw .nil)).mon mo R3, by rw [List.length_append, List.length_singleton]; omega, hlt, hT, by rw [List.append_assoc]; exact ey⟩
    · rw [if_neg hst] at go; cases go
  · left
    have hi2 : i = S.items.length := by omega
    subst hi2
    rw [List.drop_length] at go
    unfold compGo at go
    by_cases hst : S.stays m' = true
    · rw [if_pos hst] at go
      cases go
      rw [List.append_nil] at ey
      subst ey
      exact ⟨sv.stop g' _ Hc R' hds hst, p g' Hc (x1.trans x') R' D ⟨x1.was hD, nf', na', xs, hx, hxs⟩⟩
    · rw [if_neg hst] at go; cases go
/-- a block within a place -/
abbrev Blk (X : Cx) (scope : Scope) (s : Shared) (H : Hp) (C : Addr) (cl : List (PySem.Str × Addr)) (fp : List Addr) : Cx := X.blk s H scope (compEnvC scope cl C X.env) fp
theorem pf_comp (cx : Ctx B X) {elt tg iter : Expr} {ifs : List Expr} {scope : Scope} {own : List (Str × Nat)} {pos : Pos} {it c : Z.C} {t : T} {l : Cs} (hi : PI X tg iter (tIt B G W it)) (ok : BlkOk X.N X.env.scope scope own)
    (hg : ∀ s H C cl fp, PG (Blk X scope s H C cl fp) tg (tG B t)) (ht : ∀ s H C cl fp, PTs (Blk X scope s H C cl fp) ifs (tIfs B G XF l)) (he : ∀ s H C cl fp, PE (Blk X scope s H C cl fp) elt (tEv B G XF c))
    (hs : ∀ x, foldedSetIterable iter X.env x = pure x) (ho : ∀ i ∈ t.ixs, i ∈ own.map (·.2)) : PE X (.ListComp elt [⟨tg, iter, ifs, 0⟩] scope pos) (tEvF B G W (.comp (own.map (·.2)) c t it l)) :=
  peI (pe_lc cx.calm cx.nd hi ok hg ht he hs) fun σ H Q h => lc_read ho h
end Z
/-! ZC: statements. -/
namespace Z
open PySem PySem.Spec PyProof.Rows L2 RZ
variable {B : Bs} {G : Sg} {W : WE} {U : XW} {X : Cx} {g g' g1 g2 : Cfg} {H H' H1 H2 : Hp} {m m' m1 : Mem} {D : Ends} {σ : L2.St} {e : Env}

/-- what is wanted where a statement ends -/
def FlP (B : Bs) (g : Cfg) (H : Hp) (W : WE) (D : Ends) : Fl → Prop
  | .nx e m => ∀ g' H' σ, Ext g H g' H' → Rl B g' m H' → EnvR B g' H' σ e → D.nx σ H'
  | .bk e m => ∀ g' H' σ, Ext g H g' H' → Rl B g' m H' → EnvR B g' H' σ e → D.bk σ H'
  | .ct e m => ∀ g' H' σ, Ext g H g' H' → Rl B g' m H' → EnvR B g' H' σ e → D.ct σ H'
  | .rt d m => ∀ g' H' v, Ext g H g' H' → Rl B g' m H' → Den B g' H' v d → D.rt v H'
  | .exc x e m => ∀ g' H' σ, Ext g H g' H' → Rl B g' m H' → EnvR B g' H' σ e → W σ e x g' m H'
  | .bad => False
theorem FlP.ext {f : Fl} (x : Ext g H g1 H1) (h : FlP B g H W D f) : FlP B g1 H1 W D f := by
  cases f with
  | bad => exact h
  | _ => exact fun g' H' σ y => h g' H' σ (x.trans y)
theorem FlP.post {α : Type} {o : Out α} {k : α → Mem → Fl} (R : Rl B g m H) (E : EnvR B g H σ e) (h : FlP B g H W D (o.fl e k)) : Post B g H (W σ e) (fun g1 m1 H1 a => FlP B g1 H1 W D (k a m1)) o := by
  cases o with
  | bad => exact h
  | exc x m' => exact fun g' H' y r => h g' H' σ y r (E.ext y R)
  | ok a m' => exact fun g' H' y r => FlP.ext y h
theorem FlP.nx0 (R : Rl B g m H) (E : EnvR B g H σ e) (h : FlP B g H W D (.nx e m)) : D.nx σ H := h g H σ (Ext.refl _ _) R E
def tS (B : Bs) (G : Sg) (W : WE) (s : S) : TS := fun D σ H => ∃ g m e, Rl B g m H ∧ EnvR B g H σ e ∧ FlP B g H W D (execS G s e m)
def tSs (B : Bs) (G : Sg) (W : WE) (b : Ss) : TS := fun D σ H => ∃ g m e, Rl B g m H ∧ EnvR B g H σ e ∧ FlP B g H W D (execSs G b e m)
theorem psI {st : Stmt} {t t' : TS} (h : PS X st t) (i : ∀ D σ H, t' D σ H → t D σ H) : PS X st t' := ⟨fun pins s σ H D I q => h.run pins s σ H D I (i D σ H q)⟩
theorem pssI {st : List Stmt} {t t' : TS} (h : PSs X st t) (i : ∀ D σ H, t' D σ H → t D σ H) : PSs X st t' := ⟨fun pins s σ H D I q => h.run pins s σ H D I (i D σ H q)⟩
theorem sz_nil : PSs X [] (tSs B G W .nil) := by
  refine pssI pss_nil fun D σ H ⟨g, m, e, R, E, p⟩ => ?_
  unfold execSs at p
  exact p.nx0 R E
theorem sz_cons {st : Stmt} {sts : List Stmt} {s : S} {b : Ss} (h : PS X st (tS B G W s)) (t : PSs X sts (tSs B G W b)) : PSs X (st :: sts) (tSs B G W (.cons s b)) := by
  refine pssI (pss_cons h t) fun D σ H ⟨g, m, e, R, E, p⟩ => ⟨g, m, e, R, E, ?_⟩
  unfold execSs at p
  generalize execS G s e m = f at p
  cases f with
  | nx e' m' => exact fun g' H' σ' x R' E' => ⟨g', m', e', R', E', FlP.ext x p⟩
  | rt d m' => exact p
  | bk e' m' => exact p
  | ct e' m' => exact p
  | exc x e' m' => exact p
  | bad => exact p
theorem s_pass {pos : Pos} : PS X (.Pass pos) (tS B G W .pass) := psI ps_pass fun D σ H ⟨g, m, e, R, E, p⟩ => (show FlP B g H W D (.nx e m) by unfold execS at p; exact p).nx0 R E
theorem s_brk {pos : Pos} : PS X (.Break pos) (tS B G W .brk) := psI ps_break fun D σ H ⟨g, m, e, R, E, p⟩ => (show FlP B g H W D (.bk e m) by unfold execS at p; exact p) g H σ (Ext.refl _ _) R E
theorem s_cont {pos : Pos} : PS X (.Continue pos) (tS B G W .cont) := psI ps_continue fun D σ H ⟨g, m, e, R, E, p⟩ => (show FlP B g H W D (.ct e m) by unfold execS at p; exact p) g H σ (Ext.refl _ _) R E
theorem s_retN {pos : Pos} : PS X (.Return none pos) (tS B G W .retN) := psI ps_retN fun D σ H ⟨g, m, e, R, E, p⟩ => (show FlP B g H W D (.rt .non m) by unfold execS at p; exact p) g H .non (Ext.refl _ _) R .non
theorem s_ret {x : Expr} {c : Z.C} {pos : Pos} (h : PE X x (tEv B G W c)) : PS X (.Return (some x) pos) (tS B G W (.ret c)) := by
  refine psI (ps_ret h) fun D σ H ⟨g, m, e, R, E, p⟩ => ⟨g, m, e, R, E, ?_⟩
  unfold execS at p
  exact (p.post R E).imp fun g1 m1 H1 d x R1 _ q v hv => q g1 H1 v (Ext.refl _ _) R1 hv
def isComp : Expr → Bool
  | .ListComp _ _ _ _ => true
  | .SetComp _ _ _ _ => true
  | .DictComp _ _ _ _ _ => true
  | _ => false
theorem sw_no {x : Expr} {t : Option Expr} {l : Nat} {env : PySem.Env} (h : isComp x = false) : swapsWith x t l env = pure false := by
  cases x <;> first | rfl | (exact absurd h (by simp [isComp]))
theorem s_drop {x : Expr} {c : Z.C} {pos : Pos} (h : PE X x (tEv B G W c)) (hs : isComp x = false) : PS X (.Expr x pos) (tS B G W (.drop c)) := by
  refine psI (ps_expr h (sw_no hs)) fun D σ H ⟨g, m, e, R, E, p⟩ => ⟨g, m, e, R, E, ?_⟩
  unfold execS at p
  exact (p.post R E).imp fun g1 m1 H1 d x R1 _ q v hv => q g1 H1 σ (Ext.refl _ _) R1 (E.ext x R)
theorem s_doc {x : Str} {j} {pos pos' : Pos} : PS X (.Expr (.Constant (.str x) j pos) pos') (tS B G W .pass) := psI ps_doc fun D σ H ⟨g, m, e, R, E, p⟩ => (show FlP B g H W D (.nx e m) by unfold execS at p; exact p).nx0 R E
/-- a value stored under a name -/
theorem rd_set {i : Nat} {c : Z.C} (h : tS B G W (.set i c) D σ H) : tEv B G W c σ H fun v H1 => D.nx (σ.set i (some v)) H1 := by
  obtain ⟨g, m, e, R, E, p⟩ := h
  refine ⟨g, m, e, R, E, ?_⟩
  unfold execS at p
  exact (p.post R E).imp fun g1 m1 H1 d x R1 _ q v hv => q g1 H1 _ (Ext.refl _ _) R1 ((E.ext x R).set i hv)
theorem s_set (cx : Ctx B X) {i : Nat} {y : Str} {x : Expr} {c : Z.C} {p pos : Pos} (n : NmAt X i y) (h : PE X x (tEv B G W c)) (hs : isComp x = false) : PS X (.Assign [.Name y p] x pos) (tS B G W (.set i c)) :=
  psI (ps_set cx.nd n.ix n.lc h (sw_no hs) n.fn) fun D σ H q => rd_set q
theorem s_unp (cx : Ctx B X) {is : List Nat} {es : List Expr} {k : Nat} {x : Expr} {c : Z.C} {p pos : Pos} (n : NmsAt X es is) (h : PE X x (tEv B G W c)) (hs : isComp x = false) (ht : ∀ vs k p, x ≠ .Tuple vs k p) : PS X (.Assign [.Tuple es k p] x pos) (tS B G W (.unp (.tp is) c)) := by
  refine psI (ps_asg h (gz_tup (k := k) (pos := p) cx n) (show swapsWith x (some (.Tuple es k p)) pos.line X.env = pure false from sw_no hs) ?_ ?_) fun D σ H ⟨g, m, e, R, E, p⟩ => ⟨g, m, e, R, E, ?_⟩
  · unfold swappedStores
    cases x <;> first | rfl | (exact absurd rfl (ht _ _ _))
  · rfl
  · unfold execS at p
    refine (p.post R E).imp fun g1 m1 H1 d x R1 _ q v hv => ?_
    cases hb : (T.tp is).bind d e with
    | none => rw [hb] at q; exact q.elim
    | some e' =>
      rw [hb] at q
      exact ⟨g1, m1, e, d, e', R1, E.ext x R, hv, hb, fun σ2 E2 _ => q g1 H1 σ2 (Ext.refl _ _) R1 E2⟩
theorem s_if {x : Expr} {a b : List Stmt} {c : Z.C} {s t : Ss} {pos : Pos} (h : PT X x (tEvT B G W c)) (ha : PSs X a (tSs B G W s)) (hb : PSs X b (tSs B G W t)) : PS X (.If x a b pos) (tS B G W (.ite c s t)) := by
  refine psI (ps_if h ha hb) fun D σ H ⟨g, m, e, R, E, p⟩ => ⟨g, m, e, R, E, ?_⟩
  unfold execS at p
  refine (p.post R E).imp fun g1 m1 H1 k x R1 _ q => ?_
  cases k with
  | true => exact ⟨g1, m1, e, R1, E.ext x R, q⟩
  | false => exact ⟨g1, m1, e, R1, E.ext x R, q⟩
/-- a place where a block's loops may stand -/
abbrev Own (X : Cx) : Prop := PassesOwn (model X.prog X.w) X.A X.env X.xe
theorem s_while (ow : Own X) {x : Expr} {a : List Stmt} {c : Z.C} {b : Ss} {pos : Pos} (h : PT X x (tEvT B G W c)) (hb : PSs X a (tSs B G W b)) : PS X (.While x a [] pos) (tS B G W (.while_ c b)) := by
  refine psI (ps_while ow h hb) fun D σ H ⟨g, m, e, R, E, p⟩ => ?_
  unfold execS at p
  unfold whileF at p
  split at p
  · rename_i hn
    generalize hn.choose = n at p
    have hk := hn
    refine ⟨fun k σ H => ∃ g m e f, Rl B g m H ∧ EnvR B g H σ e ∧ whileN (fun e m => evalT G c e m) (fun e m => execSs G b e m) k e m = some f ∧ FlP B g H W D f, ⟨n, g, m, e, ?_⟩, ?_⟩
    · cases q : whileN (fun e m => evalT G c e m) (fun e m => execSs G b e m) n e m with
      | none => rw [q] at p; exact p.elim
      | some f => rw [q] at p; exact ⟨f, R, E, rfl, p⟩
    · rintro k σ H ⟨g, m, e, f, R, E, q, p⟩
      cases k with
      | zero => cases q
      | succ k =>
        unfold whileN at q
        refine ⟨g, m, e, R, E, ?_⟩
        cases ht : evalT G c e m with
        | bad => rw [ht] at q; cases q; exact p.elim
        | exc x m' => rw [ht] at q; cases q; exact fun g' H' y r => p g' H' σ y r (E.ext y R)
        | ok z m' =>
          rw [ht] at q
          cases z with
          | false => cases q; exact fun g' H' y r => p g' H' σ y r (E.ext y R)
          | true =>
            simp only at q
            refine fun g' H' y r => ⟨fun σ' H' => ∃ k', k' < k + 1 ∧ ∃ g m e f, Rl B g m H' ∧ EnvR B g H' σ' e ∧ whileN (fun e m => evalT G c e m) (fun e m => execSs G b e m) k' e m = some f ∧ FlP B g H' W D f, fun σ' H' z => z, g', m', e, r, E.ext y R, ?_⟩
            cases hs : execSs G b e m' with
            | bad => rw [hs] at q; cases q; exact p.elim
            | nx e2 m2 => rw [hs] at q; exact fun g2 H2 σ2 z r2 E2 => ⟨k, Nat.lt_succ_self k, g2, m2, e2, f, r2, E2, q, FlP.ext (y.trans z) p⟩
            | ct e2 m2 => rw [hs] at q; exact fun g2 H2 σ2 z r2 E2 => ⟨k, Nat.lt_succ_self k, g2, m2, e2, f, r2, E2, q, FlP.ext (y.trans z) p⟩
            | bk e2 m2 => rw [hs] at q; cases q; exact fun g2 H2 σ2 z r2 E2 => p g2 H2 σ2 (y.trans z) r2 E2
            | rt d m2 => rw [hs] at q; cases q; exact fun g2 H2 v z r2 E2 => p g2 H2 v (y.trans z) r2 E2
            | exc x e2 m2 => rw [hs] at q; cases q; exact fun g2 H2 σ2 z r2 E2 => p g2 H2 σ2 (y.trans z) r2 E2
  · exact p.elim
theorem s_for (cx : Ctx B X) (ow : Own X) {tg iter : Expr} {body : List Stmt} {t : T} {it : Z.C} {b : Ss} {pos : Pos} (hi : PI X tg iter (tIt B G W it)) (hg : PG X tg (tG B t)) (hb : PSs X body (tSs B G W b))
    (hs : ∀ x, foldedSetIterable iter X.env x = pure x) : PS X (.For tg iter body [] pos) (tS B G W (.for_ t it b)) := by
  refine psI (ps_for ow cx.calm hi hg hb hs) fun D σ H ⟨g, m, e, R, E, p⟩ => ⟨g, m, e, R, E, ?_⟩
  unfold execS at p
  refine (p.post R E).imp fun g1 m1 H1 S x1 R1 _ q J vs ds sv hd st0 sz => ?_
  refine ⟨fun i k σ Hc => k = S.items.length - i ∧ ∃ g' m' e', Rl B g' m' Hc ∧ Ext g1 H1 g' Hc ∧ EnvR B g' Hc σ e' ∧ i ≤ S.items.length ∧
    FlP B g' Hc W D (forGo S.stays (fun e m => execSs G b e m) t (S.items.drop i) e' m'), ⟨_, rfl, g1, m1, e, R1, Ext.refl _ _, E.ext x1 R, Nat.zero_le _, q⟩, ?_⟩
  rintro i k σc Hc ⟨rfl, g', m', e', R', x', E', hi, p⟩
  have hds := hd.ext x' R1
  by_cases hlt : i < S.items.length
  · right
    rw [List.drop_eq_getElem_cons hlt] at p
    unfold forGo at p
    by_cases hst : S.stays m' = true
    · rw [if_pos hst] at p
      refine ⟨sv.go g' m' Hc i R' hds hst hlt, fun σ H' => ∃ k', k' < S.items.length - i ∧ k' = S.items.length - (i + 1) ∧ ∃ g' m' e', Rl B g' m' H' ∧ Ext g1 H1 g' H' ∧ EnvR B g' H' σ e' ∧ i + 1 ≤ S.items.length ∧
        FlP B g' H' W D (forGo S.stays (fun e m => execSs G b e m) t (S.items.drop (i + 1)) e' m'), fun σ' H' z => z, fun v Hy hy => ?_⟩
      obtain ⟨xy, Ry, hv⟩ := sv.yld g' m' Hc i _ v Hy R' hds hst (List.getElem?_eq_getElem hlt) hy
      cases hb : t.bind S.items[i] e' with
      | none => rw [hb] at p; exact p.elim
      | some e2 =>
      rw [hb] at p
      dsimp only at p
      refine ⟨g', m', e', _, e2, Ry, E'.ext xy R', hv, hb, fun σ2 E2 _ => ⟨g', m', e2, Ry, E2, ?_⟩⟩
      have p := FlP.ext xy p
      cases hx : execSs G b e2 m' with
      | bad => rw [hx] at p; exact p.elim
      | nx e3 m3 => rw [hx] at p; exact fun g3 H3 σ3 z r3 E3 => ⟨_, by omega, rfl, g3, m3, e3, r3, (x'.trans xy).trans z, E3, hlt, FlP.ext z p⟩
      | ct e3 m3 => rw [hx] at p; exact fun g3 H3 σ3 z r3 E3 => ⟨_, by omega, rfl, g3, m3, e3, r3, (x'.trans xy).trans z, E3, hlt, FlP.ext z p⟩
      | bk e3 m3 => rw [hx] at p; exact p
      | rt d m3 => rw [hx] at p; exact p
      | exc x e3 m3 => rw [hx] at p; exact p
    · rw [if_neg hst] at p; exact p.elim
  · left
    have hi2 : i = S.items.length := by omega
    subst hi2
    rw [List.drop_length] at p
    unfold forGo at p
    by_cases hst : S.stays m' = true
    · rw [if_pos hst] at p
      exact ⟨sv.stop g' m' Hc R' hds hst, p g' Hc σc (Ext.refl _ _) R' E'⟩
    · rw [if_neg hst] at p; exact p.elim
/-- name op= value -/
def rAug (B : Bs) (op : Operator) : TIp := fun x y H Q => ∃ g a b d, Den B g H x a ∧ Den B g H y b ∧ augD op a b = some d ∧ ∀ v, (∀ g H, Den B g H v d) → Q v H
theorem ip_aug (op : Operator) : PIp X op (rAug B op) := by
  intro pins s σ H x y v u Q I r1 r2 ⟨g, a, b, d, ha, hb, ed, q⟩
  unfold augD at ed
  split at ed
  · cases ed; cases ha; cases hb
    exact ip_add pins s σ H _ _ v u Q I r1 r2 ⟨_, _, rfl, rfl, q _ fun _ _ => .int _⟩
  · split at ed
    · rename_i hz
      cases ed; cases ha; cases hb
      exact iop_add_str pins s σ H _ _ v u Q I r1 r2 ⟨_, _, rfl, rfl, hz, q _ fun _ _ => .str _⟩
    · cases ed
  · cases ed; cases ha; cases hb
    exact ip_sub pins s σ H _ _ v u Q I r1 r2 ⟨_, _, rfl, rfl, q _ fun _ _ => .int _⟩
  · split at ed
    · rename_i hz
      cases ed; cases ha; cases hb
      exact iop_mul pins s σ H _ _ v u Q I r1 r2 ⟨_, _, rfl, rfl, by
        unfold smallMul at hz
        simp only [Bool.or_eq_true, Bool.and_eq_true, decide_eq_true_eq] at hz
        exact hz, q _ fun _ _ => .int _⟩
    · cases ed
  · cases ed
theorem s_aug (cx : Ctx B X) {op : Operator} {i : Nat} {y : Str} {x : Expr} {c : Z.C} {p pos : Pos} (n : NmAt X i y) (h : PE X x (tEv B G W c)) : PS X (.AugAssign (.Name y p) op x pos) (tS B G W (.aug op i c)) := by
  refine psI (ps_aug cx.nd n.ix n.lc h (ip_aug (B := B) op) n.fn) fun D σ H ⟨g, m, e, R, E, p⟩ => ?_
  unfold execS at p
  cases he : e.getD i none with
  | none => rw [he] at p; exact p.elim
  | some a =>
    rw [he] at p
    obtain ⟨v, h1, h2⟩ := E.get he
    refine ⟨v, h1, g, m, e, R, E, ?_⟩
    refine (p.post R E).imp fun g1 m1 H1 b x R1 _ q w hw => ?_
    cases hz : augD op a b with
    | none => rw [hz] at q; exact q.elim
    | some z =>
      rw [hz] at q
      exact ⟨g1, a, b, z, h2.ext x R, hw, hz, fun v' hv' => q g1 H1 _ (Ext.refl _ _) R1 ((E.ext x R).set i (hv' g1 H1))⟩
/-- name.append(e) -/
theorem s_app (cx : Ctx B X) {i : Nat} {y : Str} {x : Expr} {c : Z.C} {p ap cp pos : Pos} (hy : X.N[i]? = some y) (hv : Vis X.env.scope y) (hd : (y == ("__debug__" : Str)) = false) (hcd : (y == ("__classdict__" : Str)) = false) (h : PE X x (tEv B G W c)) (hn : notStar x = true) (hl : (ap.endLine == cp.line) = true) :
    PS X (.Expr (.Call (.Attribute (.Name y p) "append" ap) [x] [] cp) pos) (tS B G W (.app i c)) := by
  have ha : PA X [x] (tEvs B G W (.cons c .nil)) := az_cons h az_nil (star_cons hn)
  refine psI (ps_expr (pe_bm (T := "list") (id := "list.append") PySem.F.plainAttrs_list PySem.F.slot_list_append rfl mt_append (pe_var hy hv hd hcd) ha rfl ?_ hl (star_cons hn) rfl) (sw_no rfl)) fun D σ H ⟨g, m, e, R, E, p⟩ => ?_
  · rw [star_cons hn]; rfl
  · unfold execS at p
    cases he : e.getD i none with
    | none => rw [he] at p; exact p.elim
    | some a =>
      rw [he] at p
      dsimp only at p
      obtain ⟨v, h1, h2⟩ := E.get he
      cases hr : rdL m a with
      | none => rw [hr] at p; exact p.elim
      | some l =>
        rw [hr] at p
        dsimp only at p
        obtain ⟨A, xs, rfl, hA, _⟩ := h2.rdL R hr
        refine ⟨_, h1, .inl ⟨rfl, xs, SqL.of hA⟩, g, m, e, R, E, ?_⟩
        unfold evalCs
        have q := p.post R E
        cases hc : evalC G c e m with
        | bad => rw [hc] at q; exact q.elim
        | exc x m' => rw [hc] at q; exact q
        | ok d m1 =>
          rw [hc] at q
          rw [Out.bind_ok, evalCs_nil, Out.bind_ok]
          intro g1 H1 x R1 vs hvs
          have q := q g1 H1 x R1
          obtain ⟨w, rfl, hw⟩ := hvs.one
          unfold appD at q
          cases a with
          | loc n =>
            dsimp only at q
            have hv1 := h2.ext x R
            cases hv1 with
            | loc hn =>
            cases hm : m1[n]? with
            | none => rw [hm] at q; exact q.elim
            | some mo =>
              rw [hm] at q
              cases mo with
              | lst l' =>
                dsimp only at q
                obtain ⟨ys, hy1, hy2⟩ := R1.mem n _ _ hn hm
                by_cases hz : l'.length < sizeLine
                · rw [if_pos hz] at q
                  dsimp only at q
                  refine ⟨_, ys, w, rfl, rfl, hy1, by rw [hy2.length]; exact hz, ?_⟩
                  have x2 := Ext.put R1 hn (o := .lst (ys ++ [w]))
                  exact q g1 _ σ x2 (Rl.put R1 hn (mo := .lst (l' ++ [d])) ⟨_, upd_same, (hy2.append (.cons hw .nil)).ext x2 R1⟩) ((E.ext x R).ext x2 R1)
                · rw [if_neg hz] at q; exact q.elim
              | _ => exact q.elim
          | _ => exact q.elim
theorem pairedApp {α β : Type} {F : α → β → Prop} : ∀ {l k : List α} {l' k' : List β}, Paired F l l' → Paired F k k' → Paired F (l ++ k) (l' ++ k')
  | _, _, _, _, .nil, s => s
  | _, _, _, _, .cons h r, s => .cons h (pairedApp r s)
theorem setK_rel {ks : List (Key × V)} {kvs : List (Key × Z.D)} {k : Key} {v : V} {d : Z.D} (h : Paired (fun (p : Key × V) (q : Key × Z.D) => p.1 = q.1 ∧ Den B g H p.2 q.2) ks kvs) (hv : Den B g H v d) :
    Paired (fun (p : Key × V) (q : Key × Z.D) => p.1 = q.1 ∧ Den B g H p.2 q.2) (putK ks k v) (setK kvs k d) := by
  have any : (ks.any fun kv => decide (kv.1 = k)) = kvs.any fun kv => decide (kv.1 = k) := by
    clear hv
    induction h with
    | nil => rfl
    | cons p t ih => rw [List.any_cons, List.any_cons, ih, p.1]
  unfold putK setK
  rw [any]
  split
  · clear any
    rename_i hh
    clear hh
    induction h with
    | nil => exact .nil
    | cons p t ih =>
      refine .cons ?_ ih
      dsimp only
      rw [p.1]
      split
      · exact ⟨rfl, hv⟩
      · exact p
  · exact pairedApp h (.cons ⟨rfl, hv⟩ .nil)
/-- o[k] = e -/
theorem s_put (cx : Ctx B X) {o k x : Expr} {co ck c : Z.C} {p pos : Pos} (ho : PE X o (tEv B G W co)) (hk : PE X k (tEv B G W ck)) (h : PE X x (tEv B G W c)) : PS X (.Assign [.Subscript o k p] x pos) (tS B G W (.put co ck c)) := by
  refine psI (ps_dput (by have := cx.un; omega) ho hk h (by cases x <;> rfl)) fun D σ H ⟨g, m, e, R, E, p⟩ => ⟨g, m, e, R, E, ?_⟩
  unfold execS at p
  refine (p.post R E).imp fun g1 m1 H1 d x1 R1 _ q v hv => ⟨g1, m1, e, R1, E.ext x1 R, ?_⟩
  have E1 := E.ext x1 R
  refine (q.post R1 E1).imp fun g2 m2 H2 a x2 R2 _ q u hu => ⟨g2, m2, e, R2, E1.ext x2 R1, ?_⟩
  have E2 := E1.ext x2 R1
  refine (q.post R2 E2).imp fun g3 m3 H3 b x3 R3 _ q y hy => ?_
  have E3 := E2.ext x3 R2
  have hu := hu.ext x3 R2
  have hv := (hv.ext x2 R1).ext x3 R2
  unfold putD at q
  cases a with
  | loc n =>
    dsimp only at q
    cases hu with
    | loc hn =>
    cases hm : m3[n]? with
    | none => rw [hm] at q; exact q.elim
    | some mo =>
      rw [hm] at q
      cases mo with
      | dk kvs =>
        cases b with
        | str z =>
          dsimp only at q
          obtain ⟨ks, hy1, hy2⟩ := R3.mem n _ _ hn hm
          by_cases hz : kvs.length < sizeLine
          · rw [if_pos hz] at q
            dsimp only at q
            cases hy
            refine ⟨_, _, rfl, DPut.k (k := .inr z) hy1 (by rw [hy2.length]; exact hz), ?_⟩
            have x4 := Ext.put R3 hn (o := .dK (putK ks (.inr z) v))
            exact q g3 _ σ x4 (Rl.put R3 hn (mo := .dk (setK kvs (.inr z) d)) ⟨_, upd_same, Paired.mapP (setK_rel hy2 hv) fun p q r => ⟨r.1, r.2.ext x4 R3⟩⟩) (E3.ext x4 R3)
          · rw [if_neg hz] at q; exact q.elim
        | _ => exact q.elim
      | _ => exact q.elim
  | _ => exact q.elim

/-- a, b = x, y, stored from the right -/
theorem setSome_two {i j : Nat} {a b : Z.D} {e : Env} : setSome [i, j] [a, b] e = (e.set i (some a)).set j (some b) := rfl
structure LcAt (X : Cx) (i : Nat) (x : Str) : Prop where
  ix : X.N[i]? = some x
  lc : X.env.scope.names.lookup x = some .local
theorem s_par2 (cx : Ctx B X) {i j : Nat} {x y : Str} {a b : Expr} {l : Cs} {px py pt pos : Pos} {kt k2 : Nat} {pt2 : Pos} (n1 : LcAt X i x) (n2 : LcAt X j y) (hij : i ≠ j) (h : PA X [a, b] (tEvs B G W l)) (hl : l.len = 2)
    (hw : swappedStores [.Tuple [.Name x px, .Name y py] kt pt] (.Tuple [a, b] k2 pt2) X.env = pure (some [x, y])) : PS X (.Assign [.Tuple [.Name x px, .Name y py] kt pt] (.Tuple [a, b] k2 pt2) pos) (tS B G W (.par [i, j] l)) := by
  refine psI (ps_par cx.calm cx.nd n1.ix n2.ix hij n1.lc n2.lc h hw) fun D σ H ⟨g, m, e, R, E, p⟩ => ⟨g, m, e, R, E, ?_⟩
  unfold execS at p
  refine (p.post R E).imp fun g1 m1 H1 ds x1 R1 eq q vs hv => ?_
  have E1 := E.ext x1 R
  have ln : ds.length = 2 := (evalCs_len eq).trans hl
  match ds, vs, hv, q, ln with
  | [d1, d2], _, .cons h1 (.cons h2 .nil), q, _ => exact ⟨_, _, rfl, q g1 H1 _ (Ext.refl _ _) R1 ((E1.set i h1).set j h2)⟩
theorem s_par3 (cx : Ctx B X) {i j k : Nat} {x y z : Str} {a b c : Expr} {l : Cs} {px py pz pt pos : Pos} {kt k2 : Nat} {pt2 : Pos} (n1 : LcAt X i x) (n2 : LcAt X j y) (n3 : LcAt X k z) (hij : i ≠ j) (hik : i ≠ k) (hjk : j ≠ k) (h : PA X [a, b, c] (tEvs B G W l)) (hl : l.len = 3)
    (hw : swappedStores [.Tuple [.Name x px, .Name y py, .Name z pz] kt pt] (.Tuple [a, b, c] k2 pt2) X.env = pure (some [x, y, z])) : PS X (.Assign [.Tuple [.Name x px, .Name y py, .Name z pz] kt pt] (.Tuple [a, b, c] k2 pt2) pos) (tS B G W (.par [i, j, k] l)) := by
  refine psI (ps_par3 cx.calm cx.nd n1.ix n2.ix n3.ix hij hik hjk n1.lc n2.lc n3.lc h hw) fun D σ H ⟨g, m, e, R, E, p⟩ => ⟨g, m, e, R, E, ?_⟩
  unfold execS at p
  refine (p.post R E).imp fun g1 m1 H1 ds x1 R1 eq q vs hv => ?_
  have E1 := E.ext x1 R
  have ln : ds.length = 3 := (evalCs_len eq).trans hl
  match ds, vs, hv, q, ln with
  | [d1, d2, d3], _, .cons h1 (.cons h2 (.cons h3 .nil)), q, _ => exact ⟨_, _, _, rfl, q g1 H1 _ (Ext.refl _ _) R1 (((E1.set i h1).set j h2).set k h3)⟩
/-- name = [.. for ..], where the name is stored within -/
theorem s_setLc (cx : Ctx B X) {i : Nat} {y : Str} {py : Pos} {elt tg iter : Expr} {ifs : List Expr} {scope : Scope} {own : List (Str × Nat)} {pos spos : Pos} {it c : Z.C} {t : T} {l : Cs} {code : Z.C} (hcode : code = .comp (own.map (·.2)) c t it l ∨ code = .new (.comp (own.map (·.2)) c t it l)) (n : NmAt X i y) (hk : X.env.scope.kind = .function)
    (hi : PI X tg iter (tIt B G W it)) (ok : BlkOk X.N X.env.scope scope own)
    (hg : ∀ s H C cl fp, PG (Blk X scope s H C cl fp) tg (tG B t)) (ht : ∀ s H C cl fp, PTs (Blk X scope s H C cl fp) ifs (tIfs B G XF l)) (he : ∀ s H C cl fp, PE (Blk X scope s H C cl fp) elt (tEv B G XF c))
    (hs : ∀ x, foldedSetIterable iter X.env x = pure x) (ho : ∀ i ∈ t.ixs, i ∈ own.map (·.2)) : PS X (.Assign [.Name y py] (.ListComp elt [⟨tg, iter, ifs, 0⟩] scope pos) spos) (tS B G W (.set i code)) := by
  have rd : ∀ {D σ H}, tS B G W (.set i code) D σ H → tEvF B G W (.comp (own.map (·.2)) c t it l) σ H fun v H1 => D.nx (σ.set i (some v)) H1 := fun {D σ H} h => by
    rcases hcode with e | e
    · subst e; exact rd_frz (rd_set h)
    · subst e; exact rd_new (rd_set h)
  have bk : X.env.blockKind = .function := by unfold PySem.Env.blockKind; rw [hk]; rfl
  by_cases sw : (X.env.scope.names.lookup y = some .local ∧ (py.line == pos.line) = true) ∧ (scope.names.any fun (n, k) => n == y && (k == .local || k == .cell)) = false
  · exact psI (ps_setLc cx.calm cx.nd n.ix sw.1.1 (sw_true hk sw.1.1 sw.1.2 sw.2) hi ok hg ht he hs) fun D σ H q => lc_read ho (rd q)
  · refine psI (ps_set cx.nd n.ix n.lc (pe_lc cx.calm cx.nd hi ok hg ht he hs) ?_ n.fn) fun D σ H q => lc_read ho (rd q)
    unfold swapsWith
    have e : (X.env.blockKind == .function && X.env.kindOf y == some .local && py.line == pos.line && !(scope.names.any fun (n, k) => n == y && (k == .local || k == .cell))) = false := by
      apply Bool.eq_false_iff.mpr
      intro h
      simp only [Bool.and_eq_true] at h
      refine sw ⟨⟨?_, h.1.2⟩, by simpa using h.2⟩
      have := h.1.1.2
      unfold PySem.Env.kindOf at this
      simpa using this
    show pure (X.env.blockKind == .function && X.env.kindOf y == some .local && py.line == pos.line && !(scope.names.any fun (n, k) => n == y && (k == .local || k == .cell))) = pure false
    rw [e]
end Z
/-! ZD: from the text to code, with its proof at hand: expressions. -/
namespace Z
open PySem PySem.Spec PyProof.Rows L2 RZ

/-- what is known of a place before the run -/
structure Gm where
  N : List Str
  sc : Scope
  fc : Str → Bool
  fns : List (Str × Nat)
  bl : List Str
  np : Nat → Option Nat
  shs : List Shp
  mu : List Nat
/-- a place as it is known -/
structure On (Γ : Gm) (B : Bs) (G : Sg) (W : WE) (X : Cx) : Prop extends Fits B G W Γ.np (· ∈ Γ.shs) X where
  N : X.N = Γ.N
  sc : X.env.scope = Γ.sc
  kd : X.env.scope.kind = .function
  fn : ∀ x, Γ.fc x = true → X.fn x = true
  fns : ∀ x n, Γ.fns.lookup x = some n → ∀ a, B.fa n = some a → X.mg x = some (.ref a)
  blt : ∀ x ∈ Γ.bl, X.mg x = none
def Gm.blk (Γ : Gm) (scope : Scope) : Gm := { Γ with sc := relS scope Γ.sc, fc := fun x => scope.names.lookup x == some .cell }
theorem On.blk {Γ : Gm} {B : Bs} {G : Sg} {W : WE} {X : Cx} (o : On Γ B G W X) {scope : Scope} (hk : scope.kind = .function) (s : Shared) (H : Hp) (C : Addr) (cl : List (PySem.Str × Addr)) (fp : List Addr) : On (Γ.blk scope) B G XF (Blk X scope s H C cl fp) := by
  refine ⟨⟨⟨o.K, o.calm, o.nd, o.un, o.gd⟩, o.lv, fun σ pins H s e s' I c => ?_⟩, o.N, ?_, hk, fun x h => h, o.fns, o.blt⟩
  · obtain ⟨_, _, _, _, _, _, _, _, _, _, _, _, _, _, _, _, _, _, _, q⟩ := c
    exact q.elim
  · show relS scope X.env.scope = relS scope Γ.sc
    rw [o.sc]

/-! ### what is brought, with its proof -/
structure RE (Γ : Gm) (x : Expr) where
  c : Z.C
  ok : ∀ {B G W X}, On Γ B G W X → PE X x (tEv B G W c)
  f : Bool
  okf : f = true → ∀ {B G W X}, On Γ B G W X → PE X x (tEvF B G W c)
structure RT (Γ : Gm) (x : Expr) where
  c : Z.C
  ok : ∀ {B G W X}, On Γ B G W X → PT X x (tEvT B G W c)
structure RW (Γ : Gm) (x : Expr) where
  c : Z.C
  ok : ∀ {B G W X}, On Γ B G W X → PW X x (tEvT B G W c)
structure RA (Γ : Gm) (es : List Expr) where
  l : Cs
  ok : ∀ {B G W X}, On Γ B G W X → PA X es (tEvs B G W l)
  len : l.len = es.length
  ns : es.all notStar = true
  nil : es = [] → l = .nil
structure RO (Γ : Gm) (x : Option Expr) where
  c : Co
  ok : ∀ {B G W X}, On Γ B G W X → PO X x (tCo B G W c)
structure RI (Γ : Gm) (tg x : Expr) where
  c : Z.C
  ok : ∀ {B G W X}, On Γ B G W X → PI X tg x (tIt B G W c)
structure RG (Γ : Gm) (tg : Expr) where
  t : T
  ok : ∀ {B G W X}, On Γ B G W X → PG X tg (tG B t)
def RE.one {Γ : Gm} {x : Expr} (c : Z.C) (ok : ∀ {B G W X}, On Γ B G W X → PE X x (tEv B G W c)) : RE Γ x := ⟨c, ok, false, fun h => nomatch h⟩
def RE.new {Γ : Gm} {x : Expr} (c : Z.C) (ok : ∀ {B G W X}, On Γ B G W X → PE X x (tEvF B G W c)) : RE Γ x := ⟨c, fun o => tEvF_of (ok o), true, fun _ {_ _ _ _} o => ok o⟩
def slot (N : List Str) (x : Str) : Nat := (N.findIdx? (· == x)).getD N.length
def visB (sc : Scope) (x : Str) : Bool := match sc.names.lookup x with
  | some .local => true
  | some .cell => true
  | some .free => true
  | _ => false
theorem vis_of {sc : Scope} {x : Str} (h : visB sc x = true) : Vis sc x := by
  unfold visB at h
  split at h
  · rename_i e; exact .inl e
  · rename_i e; exact .inr (.inl e)
  · rename_i e; exact .inr (.inr e)
  · cases h
def glB (sc : Scope) (x : Str) : Bool := match sc.names.lookup x with
  | some .globalImplicit => true
  | _ => false
theorem gl_of {Γ : Gm} {B : Bs} {G : Sg} {W : WE} {X : Cx} {x : Str} (o : On Γ B G W X) (h : glB Γ.sc x = true) : Gl X x := by
  unfold glB at h
  split at h
  · rename_i e
    show X.env.scope.names.lookup x = _
    rw [o.sc]; exact e
  · cases h
def plainNm (x : Str) : Bool := !(x == ("__debug__" : Str)) && !(x == ("__classdict__" : Str)) && !decide (x = "__name__")
theorem plainNm_of {x : Str} (h : plainNm x = true) : (x == ("__debug__" : Str)) = false ∧ (x == ("__classdict__" : Str)) = false ∧ x ≠ "__name__" := by
  unfold plainNm at h
  simp only [Bool.and_eq_true, Bool.not_eq_true', decide_eq_false_iff_not] at h
  exact ⟨h.1.1, h.1.2, h.2⟩
def trVar (Γ : Gm) (x : Str) (pos : Pos) : Option (RE Γ (.Name x pos)) :=
  if h1 : Γ.N[slot Γ.N x]? = some x then if h2 : visB Γ.sc x = true then if h3 : plainNm x = true then
    some (.one (.var (slot Γ.N x)) fun o => pz_var (by rw [o.N]; exact h1) (vis_of (by rw [o.sc]; exact h2)) (plainNm_of h3).1 (plainNm_of h3).2.1)
  else none else none else none
theorem pz_ty {Γ : Gm} {B : Bs} {G : Sg} {W : WE} {X : Cx} {x : Str} {pos : Pos} (o : On Γ B G W X) {s : String} (hx : glB Γ.sc x = true ∧ x ∈ Γ.bl ∧ plainNm x = true) (hv : bootBuiltins x = some (.type s)) : PE X (.Name x pos) (tEv B G W (.con (.ty s))) :=
  pz_con (pe_bltn (v := .ty s) (gl_of o hx.1) (o.blt x hx.2.1) hv rfl (plainNm_of hx.2.2).2.2 (plainNm_of hx.2.2).1) fun g H => .ty s
def trTy (Γ : Gm) (x : Str) (pos : Pos) : Option (RE Γ (.Name x pos)) :=
  if hx : glB Γ.sc x = true ∧ x ∈ Γ.bl ∧ plainNm x = true then
    if e : x = "int" then some (.one (.con (.ty "int")) fun o => pz_ty o hx (by rw [e]; decide +kernel))
    else if e : x = "bool" then some (.one (.con (.ty "bool")) fun o => pz_ty o hx (by rw [e]; decide +kernel))
    else if e : x = "str" then some (.one (.con (.ty "str")) fun o => pz_ty o hx (by rw [e]; decide +kernel))
    else if e : x = "tuple" then some (.one (.con (.ty "tuple")) fun o => pz_ty o hx (by rw [e]; decide +kernel))
    else if e : x = "list" then some (.one (.con (.ty "list")) fun o => pz_ty o hx (by rw [e]; decide +kernel))
    else none
  else none
def trName (Γ : Gm) (x : Str) (pos : Pos) : Option (RE Γ (.Name x pos)) := match trVar Γ x pos with
  | some r => some r
  | none => trTy Γ x pos
def trConst (Γ : Gm) : (c : Const) → (k : Nat) → (pos : Pos) → Option (RE Γ (.Constant c k pos))
  | .none, _, _ => some (.one (.con .non) fun _ => pz_con pe_non fun _ _ => .non)
  | .bool b, _, _ => some (.one (.con (.bl b)) fun _ => pz_con pe_bl fun _ _ => .bl b)
  | .int i, _, _ => some (.one (.con (.int i)) fun _ => pz_con pe_int fun _ _ => .int i)
  | .str s, _, _ => some (.one (.con (.str s)) fun _ => pz_con pe_str fun _ _ => .str s)
  | _, _, _ => none
def trEs {Γ : Gm} (rec : (x : Expr) → Option (RE Γ x)) : (es : List Expr) → Option (RA Γ es)
  | [] => some ⟨.nil, fun _ => az_nil, rfl, rfl, fun _ => rfl⟩
  | e :: es => if hn : notStar e = true then match rec e, trEs rec es with
    | some r, some s => some ⟨.cons r.c s.l, fun o => az_cons (r.ok o) (s.ok o) (star_cons hn), by show s.l.len + 1 = es.length + 1; rw [s.len], by rw [List.all_cons, hn, s.ns]; rfl, fun h => nomatch h⟩
    | _, _ => none
    else none
def trO {Γ : Gm} (rec : (x : Expr) → Option (RE Γ x)) : (x : Option Expr) → Option (RO Γ x)
  | none => some ⟨.none, fun _ => oz_none⟩
  | some e => match rec e with
    | some r => some ⟨.some r.c, fun o => oz_some (r.ok o)⟩
    | none => none
def trBool {Γ : Gm} (rec : (x : Expr) → Option (RE Γ x)) : (op : BoolOp) → (es : List Expr) → (pos : Pos) → Option (RE Γ (.BoolOp op es pos))
  | _, [], _ => none
  | _, [a], _ => match rec a with
    | some r => some (.one r.c fun o => pz_one (r.ok o))
    | none => none
  | .And, a :: b :: es, pos => match rec a, trBool rec .And (b :: es) pos with
    | some r, some s => some (.one (.and r.c s.c) fun o => pz_and (r.ok o) (s.ok o))
    | _, _ => none
  | .Or, a :: b :: es, pos => match rec a, trBool rec .Or (b :: es) pos with
    | some r, some s => some (.one (.or r.c s.c) fun o => pz_or (r.ok o) (s.ok o))
    | _, _ => none
def trBoolT {Γ : Gm} (rec : (x : Expr) → Option (RT Γ x)) : (op : BoolOp) → (es : List Expr) → (pos : Pos) → Option (RW Γ (.BoolOp op es pos))
  | _, [], _ => none
  | .And, [a], _ => match rec a with
    | some r => some ⟨r.c, fun o => tw_and1 (r.ok o)⟩
    | none => none
  | .Or, [a], _ => match rec a with
    | some r => some ⟨r.c, fun o => tw_or1 (r.ok o)⟩
    | none => none
  | .And, a :: b :: es, pos => match rec a, trBoolT rec .And (b :: es) pos with
    | some r, some s => some ⟨.and r.c s.c, fun o => tz_and (r.ok o) (s.ok o)⟩
    | _, _ => none
  | .Or, a :: b :: es, pos => match rec a, trBoolT rec .Or (b :: es) pos with
    | some r, some s => some ⟨.or r.c s.c, fun o => tz_or (r.ok o) (s.ok o)⟩
    | _, _ => none
def biOf (x : Str) : Option Bi :=
  if x = "isinstance" then some .isinst else if x = "all" then some .all else if x = "any" then some .any else if x = "sum" then some .sum else if x = "len" then some .len
  else if x = "list" then some .list else if x = "tuple" then some .tuple else if x = "sorted" then some .sorted else if x = "repr" then some .repr else if x = "str" then some .str else if x = "int" then some .int else none
structure RK (Γ : Gm) (kws : List Keyword) where
  ns : List Str
  l : Cs
  ok : ∀ {B G W X}, On Γ B G W X → KwZ B G W X kws ns l
def trKws {Γ : Gm} (rec : (x : Expr) → Option (RE Γ x)) : (ks : List Keyword) → Option (RK Γ ks)
  | [] => some ⟨[], .nil, fun _ => .nil⟩
  | ⟨some k, v, pos⟩ :: ks => match rec v, trKws rec ks with
    | some r, some s => some ⟨k :: s.ns, .cons r.c s.l, fun o => .cons (r.ok o) (s.ok o)⟩
    | _, _ => none
  | _ => none
def trCallF {Γ : Gm} (rec : (x : Expr) → Option (RE Γ x)) (x : Str) (p : Pos) (es : List Expr) (pos : Pos) : Option (RE Γ (.Call (.Name x p) es [] pos)) :=
  match h : Γ.fns.lookup x with
  | none => none
  | some n => if hx : glB Γ.sc x = true ∧ plainNm x = true then match trEs rec es with
    | none => none
    | some a => if hn : Γ.np n = some a.l.len then
        some (.one (.call n a.l) fun o => pz_call o.toFits hn rfl (gl_of o hx.1) (o.fns x n h) (a.ok o) a.ns a.nil (plainNm_of hx.2).1)
      else none
    else none
def trCallB {Γ : Gm} (rec : (x : Expr) → Option (RE Γ x)) (x : Str) (p : Pos) (es : List Expr) (pos : Pos) : Option (RE Γ (.Call (.Name x p) es [] pos)) :=
  match biOf x with
  | none => none
  | some b => if hx : x = biName b ∧ glB Γ.sc x = true ∧ x ∈ Γ.bl then match es with
    | [] => none
    | e :: es => match trEs rec (e :: es) with
      | none => none
      | some a => some (.new (.bi b a.l) fun o => pf_bi o.toCtx hx.1 (gl_of o hx.2.1) (o.blt x hx.2.2) (a.ok o) a.ns)
    else none
def trCallK {Γ : Gm} (rec : (x : Expr) → Option (RE Γ x)) (x : Str) (p : Pos) (es : List Expr) (kws : List Keyword) (pos : Pos) : Option (RE Γ (.Call (.Name x p) es kws pos)) :=
  match h : Γ.fns.lookup x with
  | none => none
  | some n => if hx : glB Γ.sc x = true ∧ plainNm x = true then match trEs rec es, trKws rec kws with
    | some a, some b => match hs : Γ.shs.find? (fun s => s.n == n && s.npos == es.length && s.ks == b.ns) with
      | none => none
      | some s => if hn : Γ.np n = some s.np ∧ s.n = n ∧ a.l.len = s.npos ∧ b.ns = s.ks then
          some (.one (.callk s.n s.np a.l s.ix b.l s.df) fun o => pz_callk (s := s) o.toFits (by rw [hn.2.1]; exact hn.1) (List.mem_of_find?_eq_some hs) rfl (gl_of o hx.1) (by rw [hn.2.1]; exact o.fns x n h) (a.ok o) hn.2.2.1 (by rw [← hn.2.2.2]; exact b.ok o) a.ns a.nil (plainNm_of hx.2).1)
        else none
    | _, _ => none
    else none
structure RV (Γ : Gm) (ks : List (Option Expr)) (vs : List Expr) where
  ns : List Str
  l : Cs
  ok : ∀ {B G W X}, On Γ B G W X → DV B G W X ks vs ns l
def trDict {Γ : Gm} (rec : (x : Expr) → Option (RE Γ x)) : (ks : List (Option Expr)) → (vs : List Expr) → Option (RV Γ ks vs)
  | [], [] => some ⟨[], .nil, fun _ => .nil⟩
  | some (.Constant (.str k) j pos) :: ks, v :: vs => match rec v, trDict rec ks vs with
    | some r, some s => some ⟨k :: s.ns, .cons r.c s.l, fun o => .cons (r.ok o) (s.ok o)⟩
    | _, _ => none
  | _, _ => none
/-! ### sources, targets -/
def locB (sc : Scope) (x : Str) : Bool := match sc.names.lookup x with
  | some .local => true
  | some .cell => true
  | _ => false
def isLoc (sc : Scope) (x : Str) : Bool := match sc.names.lookup x with
  | some .local => true
  | _ => false
theorem isLoc_of {sc : Scope} {x : Str} (h : isLoc sc x = true) : sc.names.lookup x = some .local := by
  unfold isLoc at h
  split at h
  · assumption
  · cases h
def nmB (Γ : Gm) (i : Nat) (x : Str) : Bool := decide (Γ.N[i]? = some x) && locB Γ.sc x && (Γ.fc x || isLoc Γ.sc x)
theorem nm_of {Γ : Gm} {B : Bs} {G : Sg} {W : WE} {X : Cx} {i : Nat} {x : Str} (o : On Γ B G W X) (h : nmB Γ i x = true) : NmAt X i x := by
  unfold nmB at h
  simp only [Bool.and_eq_true, decide_eq_true_eq, Bool.or_eq_true] at h
  refine ⟨by rw [o.N]; exact h.1.1, ?_, h.2.imp (o.fn x) fun z => by rw [o.sc]; exact isLoc_of z⟩
  have q := h.1.2
  unfold locB at q
  rw [o.sc]
  split at q
  · rename_i e; exact .inl e
  · rename_i e; exact .inr e
  · cases q
structure RN (Γ : Gm) (es : List Expr) where
  is : List Nat
  ok : ∀ {B G W X}, On Γ B G W X → NmsAt X es is
def trNms (Γ : Gm) : (es : List Expr) → Option (RN Γ es)
  | [] => some ⟨[], fun _ => .nil⟩
  | .Name x pos :: es => if h : nmB Γ (slot Γ.N x) x = true then match trNms Γ es with
    | some r => some ⟨slot Γ.N x :: r.is, fun o => .cons (nm_of o h) (r.ok o)⟩
    | none => none
    else none
  | _ => none
def trTg (Γ : Gm) : (tg : Expr) → Option (RG Γ tg)
  | .Name x pos => if h : nmB Γ (slot Γ.N x) x = true then some ⟨.nm (slot Γ.N x), fun o => gz_name o.toCtx (nm_of o h)⟩ else none
  | .Tuple es k pos => match trNms Γ es with
    | some r => some ⟨.tp r.is, fun o => gz_tup o.toCtx (r.ok o)⟩
    | none => none
  | _ => none
def trPlainI {Γ : Gm} (rec : (x : Expr) → Option (RE Γ x)) (tg x : Expr) : Option (RI Γ tg x) := match rec x with
  | some r => if h : plainIt r.c = true then some ⟨r.c, fun o => iz_plain o.toCtx (r.ok o) h⟩ else none
  | none => none
def trRng {Γ : Gm} (rec : (x : Expr) → Option (RE Γ x)) (tg : Expr) : (x : Expr) → Option (RI Γ tg x)
  | .Call (.Name x p) [a] [] pos => if h : x = "range" ∧ glB Γ.sc x = true ∧ x ∈ Γ.bl ∧ notStar a = true then match rec a with
    | some r => some ⟨.rng r.c, fun o => by obtain ⟨rfl, h2, h3, h4⟩ := h; exact iz_rng (r.ok o) (gl_of o h2) (o.blt _ h3) h4⟩
    | none => none
    else none
  | _ => none
def trZip {Γ : Gm} (rec : (x : Expr) → Option (RE Γ x)) : (tg x : Expr) → Option (RI Γ tg x)
  | .Tuple es k tp, .Call (.Name x p) [a, b] [] pos => if h : x = "zip" ∧ glB Γ.sc x = true ∧ x ∈ Γ.bl ∧ notStar a = true ∧ notStar b = true then match rec a, rec b with
    | some r, some s => some ⟨.zip r.c s.c, fun o => by obtain ⟨rfl, h2, h3, h4, h5⟩ := h; exact iz_zip o.toCtx (r.ok o) (s.ok o) (gl_of o h2) (o.blt _ h3) h4 h5⟩
    | _, _ => none
    else none
  | _, _ => none
def trIt {Γ : Gm} (rec : (x : Expr) → Option (RE Γ x)) (tg x : Expr) : Option (RI Γ tg x) := match trRng rec tg x with
  | some r => some r
  | none => match trZip rec tg x with
    | some r => some r
    | none => trPlainI rec tg x
def notSet : Expr → Bool
  | .Set _ _ _ => false
  | _ => true
theorem notSet_of {x : Expr} {env : PySem.Env} (h : notSet x = true) : ∀ v, foldedSetIterable x env v = pure v := fun v => by
  cases x <;> first | rfl | (exact absurd h (by simp [notSet]))
/-! ### comprehensions -/
structure RC (Γ : Gm) (elt tg iter : Expr) (ifs : List Expr) (scope : Scope) where
  own : List (Str × Nat)
  it : Z.C
  c : Z.C
  t : T
  l : Cs
  hi : ∀ {B G W X}, On Γ B G W X → PI X tg iter (tIt B G W it)
  ok : ∀ {B G W X}, On Γ B G W X → BlkOk X.N X.env.scope scope own
  hg : ∀ {B G W X}, On Γ B G W X → ∀ s H C cl fp, PG (Blk X scope s H C cl fp) tg (tG B t)
  ht : ∀ {B G W X}, On Γ B G W X → ∀ s H C cl fp, PTs (Blk X scope s H C cl fp) ifs (tIfs B G XF l)
  he : ∀ {B G W X}, On Γ B G W X → ∀ s H C cl fp, PE (Blk X scope s H C cl fp) elt (tEv B G XF c)
  hs : notSet iter = true
  ho : ∀ i ∈ t.ixs, i ∈ own.map (·.2)
structure RF (Γ : Gm) (ifs : List Expr) where
  l : Cs
  ok : ∀ {B G W X}, On Γ B G W X → PTs X ifs (tIfs B G W l)
def trIfs {Γ : Gm} (recT : (x : Expr) → Option (RT Γ x)) : (ifs : List Expr) → Option (RF Γ ifs)
  | [] => some ⟨.nil, fun _ => fz_nil⟩
  | [c] => match recT c with
    | some r => some ⟨.cons r.c .nil, fun o => fz_one (r.ok o)⟩
    | none => none
  | _ => none
def ownOf (N : List Str) (scope : Scope) : List (Str × Nat) := scope.names.filterMap fun p => match p.2 with
  | .local => if N.contains p.1 then some (p.1, slot N p.1) else none
  | .cell => if N.contains p.1 then some (p.1, slot N p.1) else none
  | _ => none
def trComp {Γ : Gm} (rec : ∀ Γ (x : Expr), Option (RE Γ x)) (recT : ∀ Γ (x : Expr), Option (RT Γ x)) (elt tg iter : Expr) (ifs : List Expr) (scope : Scope) : Option (RC Γ elt tg iter ifs scope) :=
  if hk : scope.kind = .function then if hb : blkC Γ.N Γ.sc scope (ownOf Γ.N scope) = true then if hs : notSet iter = true then
    match trIt (rec Γ) tg iter, trTg (Γ.blk scope) tg, trIfs (recT (Γ.blk scope)) ifs, rec (Γ.blk scope) elt with
    | some i, some g, some f, some e => if ho : ∀ j ∈ g.t.ixs, j ∈ (ownOf Γ.N scope).map (·.2) then
        some ⟨ownOf Γ.N scope, i.c, e.c, g.t, f.l, fun o => i.ok o, fun o => blkOk_by (by rw [o.N, o.sc]; exact hb), fun o s H C cl fp => g.ok (o.blk hk s H C cl fp),
          fun o s H C cl fp => f.ok (o.blk hk s H C cl fp), fun o s H C cl fp => e.ok (o.blk hk s H C cl fp), hs, ho⟩
      else none
    | _, _, _, _ => none
  else none else none else none
def RC.re {Γ : Gm} {elt tg iter : Expr} {ifs : List Expr} {scope : Scope} (r : RC Γ elt tg iter ifs scope) (pos : Pos) : RE Γ (.ListComp elt [⟨tg, iter, ifs, 0⟩] scope pos) :=
  .new (.comp (r.own.map (·.2)) r.c r.t r.it r.l) fun o => pf_comp o.toCtx (r.hi o) (r.ok o) (r.hg o) (r.ht o) (r.he o) (notSet_of r.hs) r.ho
/-! ### expressions -/
def plainIxB : Expr → Bool
  | .Name _ _ => true
  | .Constant _ _ _ => true
  | .BinOp _ _ _ _ => true
  | .UnaryOp _ _ _ => true
  | .Call _ _ _ _ => true
  | .Subscript _ _ _ => true
  | _ => false
theorem plainIx_of {x : Expr} (h : plainIxB x = true) : PlainIx x := by
  cases x <;> first | (intro o i; rfl) | (exact absurd h (by simp [plainIxB]))
def stepE (rec : ∀ Γ (x : Expr), Option (RE Γ x)) (recT : ∀ Γ (x : Expr), Option (RT Γ x)) (Γ : Gm) : (x : Expr) → Option (RE Γ x)
  | .Name x pos => trName Γ x pos
  | .Constant c k pos => trConst Γ c k pos
  | .Tuple es k pos => match trEs (rec Γ) es with
    | some a => if h : a.l.len ≤ 1000 then some (.one (.tup a.l) fun o => pz_tup (a.ok o) h) else none
    | none => none
  | .List es pos => match trEs (rec Γ) es with
    | some a => if h : a.l.len ≤ 1000 then some (.new (.lst a.l) fun o => pf_lst (a.ok o) h) else none
    | none => none
  | .BinOp a op b pos => match rec Γ a, rec Γ b with
    | some r, some s => some (.new (.bin op r.c s.c) fun o => pf_bin o.toCtx (r.ok o) (s.ok o))
    | _, _ => none
  | .UnaryOp .USub a pos => match rec Γ a with
    | some r => some (.one (.neg r.c) fun o => pz_neg (r.ok o))
    | none => none
  | .UnaryOp .Not a pos => match rec Γ a with
    | some r => some (.one (.not r.c) fun o => pz_not (r.ok o))
    | none => none
  | .Compare a [op] [b] pos => if h : behindInMarks op b = false then match rec Γ a, rec Γ b with
    | some r, some s => some (.one (.cmp op r.c s.c) fun o => pz_cmp o.toCtx (r.ok o) (s.ok o) h)
    | _, _ => none
    else none
  | .Compare a [op, op2] [b, c] pos => if h : lastMarks [op, op2] [b, c] = false then match rec Γ a, rec Γ b, rec Γ c with
    | some r, some s, some t => some (.one (.chn op op2 r.c s.c t.c) fun o => pz_chn o.toCtx (r.ok o) (s.ok o) (t.ok o) h)
    | _, _, _ => none
    else none
  | .BoolOp op es pos => trBool (rec Γ) op es pos
  | .IfExp t a b pos => match recT Γ t, rec Γ a, rec Γ b with
    | some q, some r, some s => some (.one (.ite q.c r.c s.c) fun o => pz_ite (q.ok o) (r.ok o) (s.ok o))
    | _, _, _ => none
  | .Subscript a (.Slice none none (some (.UnaryOp .USub (.Constant (.int 1) k p1) p2)) p3) pos => match rec Γ a with
    | some r => some (.new (.rev r.c) fun o => pf_back o.toCtx (r.ok o))
    | none => none
  | .Subscript a (.Slice lo hi none p2) pos => match rec Γ a, trO (rec Γ) lo, trO (rec Γ) hi with
    | some r, some l, some h => some (.new (.cut r.c l.c h.c) fun o => pf_cut o.toCtx (r.ok o) (l.ok o) (h.ok o))
    | _, _, _ => none
  | .Subscript a i pos => if h : plainIxB i = true then match rec Γ a, rec Γ i with
    | some r, some s => some (.one (.sub r.c s.c) fun o => pz_sub o.toCtx (r.ok o) (s.ok o) (plainIx_of h))
    | _, _ => none
    else none
  | .Dict ks vs pos => match trDict (rec Γ) ks vs with
    | some r => if h : r.ns ≠ [] ∧ r.ns.length ≤ 15 ∧ r.ns.Nodup then some (.one (.dict r.ns r.l) fun o => pz_dict (r.ok o) h.1 h.2.1 h.2.2) else none
    | none => none
  | .Call (.Name x p) es [] pos => match trCallF (rec Γ) x p es pos with
    | some r => some r
    | none => match trCallB (rec Γ) x p es pos with
      | some r => some r
      | none => trCallK (rec Γ) x p es [] pos
  | .Call (.Name x p) es (k :: ks) pos => trCallK (rec Γ) x p es (k :: ks) pos
  | .ListComp elt [⟨tg, iter, ifs, 0⟩] scope pos => match trComp (Γ := Γ) rec recT elt tg iter ifs scope with
    | some r => some (r.re pos)
    | none => none
  | _ => none
def valB : Expr → Bool
  | .Name _ _ => true
  | .Constant _ _ _ => true
  | .Call _ _ _ _ => true
  | .Subscript _ _ _ => true
  | _ => false
def trVal {Γ : Gm} (rec : (x : Expr) → Option (RE Γ x)) (x : Expr) : Option (RT Γ x) := if h : valB x = true then match rec x with
  | some r => some ⟨r.c, fun o => tz_val (r.ok o) (by cases x <;> first | (intro w; rfl) | (exact absurd h (by simp [valB])))⟩
  | none => none
  else none
def stepT (rec : ∀ Γ (x : Expr), Option (RE Γ x)) (recT : ∀ Γ (x : Expr), Option (RT Γ x)) (Γ : Gm) : (x : Expr) → Option (RT Γ x)
  | .UnaryOp .Not a pos => match recT Γ a with
    | some r => some ⟨.not r.c, fun o => tz_not (r.ok o)⟩
    | none => none
  | .Compare a [op] [b] pos => if h : behindInMarks op b = false then match rec Γ a, rec Γ b with
    | some r, some s => some ⟨.cmp op r.c s.c, fun o => tz_cmp o.toCtx (r.ok o) (s.ok o) h⟩
    | _, _ => none
    else none
  | .Compare a [op, op2] [b, c] pos => if h : lastMarks [op, op2] [b, c] = false then match rec Γ a, rec Γ b, rec Γ c with
    | some r, some s, some t => some ⟨.chn op op2 r.c s.c t.c, fun o => tz_chn o.toCtx (r.ok o) (s.ok o) (t.ok o) h⟩
    | _, _, _ => none
    else none
  | .BoolOp op es pos => match trBoolT (recT Γ) op es pos with
    | some r => some ⟨r.c, fun o => (r.ok o).pt⟩
    | none => none
  | x => trVal (rec Γ) x
def tr : Nat → (∀ Γ (x : Expr), Option (RE Γ x)) × (∀ Γ (x : Expr), Option (RT Γ x))
  | 0 => (fun _ _ => none, fun _ _ => none)
  | n + 1 => (fun Γ x => stepE (tr n).1 (tr n).2 Γ x, fun Γ x => stepT (tr n).1 (tr n).2 Γ x)
end Z
/-! ZE: from the text to code: statements; a def by its body. -/
namespace Z
open PySem PySem.Spec PyProof.Rows L2 RZ

structure RS (Γ : Gm) (st : Stmt) where
  s : S
  ok : ∀ {B G W X}, On Γ B G W X → Own X → PS X st (tS B G W s)
structure RSs (Γ : Gm) (sts : List Stmt) where
  b : Ss
  ok : ∀ {B G W X}, On Γ B G W X → Own X → PSs X sts (tSs B G W b)
def trSs {Γ : Gm} (rec : (x : Stmt) → Option (RS Γ x)) : (sts : List Stmt) → Option (RSs Γ sts)
  | [] => some ⟨.nil, fun _ _ => sz_nil⟩
  | s :: sts => match rec s, trSs rec sts with
    | some r, some t => some ⟨.cons r.s t.b, fun o w => sz_cons (r.ok o w) (t.ok o w)⟩
    | _, _ => none
/-- the code of a value stored in slot i -/
def RE.at {Γ : Gm} {x : Expr} (r : RE Γ x) (i : Nat) : RE Γ x := if h : Γ.mu.contains i = true ∧ r.f = true then .one (.new r.c) fun o => tEv_new (r.okf h.2 o) else r
theorem lc_of {Γ : Gm} {B : Bs} {G : Sg} {W : WE} {X : Cx} {i : Nat} {x : Str} (o : On Γ B G W X) (h : Γ.N[i]? = some x ∧ isLoc Γ.sc x = true) : LcAt X i x := ⟨by rw [o.N]; exact h.1, by rw [o.sc]; exact isLoc_of h.2⟩
def isStarred : Expr → Bool
  | .Starred _ _ => true
  | _ => false
theorem any_starred {l : List Expr} (h : l.all notStar = true) : (l.any fun | .Starred .. => true | _ => false) = false := by
  induction l with
  | nil => rfl
  | cons a l ih =>
    rw [List.all_cons, Bool.and_eq_true] at h
    rw [List.any_cons, ih h.2, Bool.or_false]
    cases a <;> first | rfl | (exact absurd h.1 (by simp [notStar]))
theorem sw_two {env : PySem.Env} {x y : Str} {px py pt pt2 : Pos} {kt k2 : Nat} {a b : Expr} (bk : env.blockKind = .function) (kx : env.scope.names.lookup x = some .local) (ky : env.scope.names.lookup y = some .local) (hl : (py.line == px.line) = true) (hne : x ≠ y)
    (h1 : [a, b].all notStar = true) (h2 : [a, b].all (foldedForSure 8) = false) (h3 : [a, b].all (constantsAlone 8) = false) :
    swappedStores [.Tuple [.Name x px, .Name y py] kt pt] (.Tuple [a, b] k2 pt2) env = pure (some [x, y]) := by
  have kx' : env.kindOf x = some .local := kx
  have ky' : env.kindOf y = some .local := ky
  unfold swappedStores
  have s1 := any_starred h1
  have hne' : (y == x) = false := by simpa using fun e : y = x => hne e.symm
  simp only [bk, List.length_cons, List.length_nil, s1, h2, h3, List.filterMap_cons, List.filterMap_nil, kx', ky', Expr.pos, List.head?_cons, Option.map_some, Option.getD_some, hl]
  simp [List.eraseDups_cons, hne']
  intro h
  simp only [List.any_cons, List.any_nil, Bool.or_false, Bool.or_eq_false_iff] at s1
  rcases h with h | h
  · exact Bool.noConfusion (h.symm.trans s1.1)
  · exact Bool.noConfusion (h.symm.trans s1.2)
theorem sw_three {env : PySem.Env} {x y z : Str} {px py pz pt pt2 : Pos} {kt k2 : Nat} {a b c : Expr} (bk : env.blockKind = .function) (kx : env.scope.names.lookup x = some .local) (ky : env.scope.names.lookup y = some .local) (kz : env.scope.names.lookup z = some .local) (hl : (py.line == px.line) = true) (hl2 : (pz.line == px.line) = true) (hne : x ≠ y) (hnz : x ≠ z) (hyz : y ≠ z)
    (h1 : [a, b, c].all notStar = true) (h2 : [a, b, c].all (foldedForSure 8) = false) (h3 : [a, b, c].all (constantsAlone 8) = false) :
    swappedStores [.Tuple [.Name x px, .Name y py, .Name z pz] kt pt] (.Tuple [a, b, c] k2 pt2) env = pure (some [x, y, z]) := by
  have kx' : env.kindOf x = some .local := kx
  have ky' : env.kindOf y = some .local := ky
  have kz' : env.kindOf z = some .local := kz
  unfold swappedStores
  have s1 := any_starred h1
  have e1 : (y == x) = false := by simpa using fun e : y = x => hne e.symm
  have e2 : (z == x) = false := by simpa using fun e : z = x => hnz e.symm
  have e3 : (z == y) = false := by simpa using fun e : z = y => hyz e.symm
  simp only [bk, List.length_cons, List.length_nil, s1, h2, h3, List.filterMap_cons, List.filterMap_nil, kx', ky', kz', Expr.pos, List.head?_cons, Option.map_some, Option.getD_some, hl, hl2]
  simp [List.eraseDups_cons, e1, e2, e3]
  intro h
  simp only [List.any_cons, List.any_nil, Bool.or_false, Bool.or_eq_false_iff] at s1
  rcases h with h | h | h
  · exact Bool.noConfusion (h.symm.trans s1.1)
  · exact Bool.noConfusion (h.symm.trans s1.2.1)
  · exact Bool.noConfusion (h.symm.trans s1.2.2)
theorem bk_of {X : Cx} (h : X.env.scope.kind = .function) : X.env.blockKind = .function := by unfold PySem.Env.blockKind; rw [h]; rfl
def trPar2 {Γ : Gm} (rec : (x : Expr) → Option (RE Γ x)) (x y : Str) (px py pt : Pos) (kt : Nat) (a b : Expr) (k2 : Nat) (pt2 pos : Pos) : Option (RS Γ (.Assign [.Tuple [.Name x px, .Name y py] kt pt] (.Tuple [a, b] k2 pt2) pos)) :=
  if h : (Γ.N[slot Γ.N x]? = some x ∧ isLoc Γ.sc x = true) ∧ (Γ.N[slot Γ.N y]? = some y ∧ isLoc Γ.sc y = true) ∧ slot Γ.N x ≠ slot Γ.N y ∧ x ≠ y ∧ (py.line == px.line) = true ∧ [a, b].all (foldedForSure 8) = false ∧ [a, b].all (constantsAlone 8) = false then
    match trEs rec [a, b] with
    | some r => some ⟨.par [slot Γ.N x, slot Γ.N y] r.l, fun o w => by
        obtain ⟨h1, h2, h3, h4, h5, h6, h7⟩ := h
        have n1 := lc_of o h1
        have n2 := lc_of o h2
        exact s_par2 o.toCtx n1 n2 h3 (r.ok o) r.len (sw_two (bk_of o.kd) n1.lc n2.lc h5 h4 r.ns h6 h7)⟩
    | none => none
  else none
def trPar3 {Γ : Gm} (rec : (x : Expr) → Option (RE Γ x)) (x y z : Str) (px py pz pt : Pos) (kt : Nat) (a b c : Expr) (k2 : Nat) (pt2 pos : Pos) : Option (RS Γ (.Assign [.Tuple [.Name x px, .Name y py, .Name z pz] kt pt] (.Tuple [a, b, c] k2 pt2) pos)) :=
  if h : ((Γ.N[slot Γ.N x]? = some x ∧ isLoc Γ.sc x = true) ∧ (Γ.N[slot Γ.N y]? = some y ∧ isLoc Γ.sc y = true) ∧ (Γ.N[slot Γ.N z]? = some z ∧ isLoc Γ.sc z = true)) ∧ (slot Γ.N x ≠ slot Γ.N y ∧ slot Γ.N x ≠ slot Γ.N z ∧ slot Γ.N y ≠ slot Γ.N z ∧ x ≠ y ∧ x ≠ z ∧ y ≠ z) ∧ (py.line == px.line) = true ∧ (pz.line == px.line) = true ∧ [a, b, c].all (foldedForSure 8) = false ∧ [a, b, c].all (constantsAlone 8) = false then
    match trEs rec [a, b, c] with
    | some r => some ⟨.par [slot Γ.N x, slot Γ.N y, slot Γ.N z] r.l, fun o w => by
        obtain ⟨⟨h1, h2, h3⟩, ⟨d1, d2, d3, e1, e2, e3⟩, l1, l2, h6, h7⟩ := h
        have n1 := lc_of o h1
        have n2 := lc_of o h2
        have n3 := lc_of o h3
        exact s_par3 o.toCtx n1 n2 n3 d1 d2 d3 (r.ok o) r.len (sw_three (bk_of o.kd) n1.lc n2.lc n3.lc l1 l2 e1 e2 e3 r.ns h6 h7)⟩
    | none => none
  else none
def notTup : Expr → Bool
  | .Tuple _ _ _ => false
  | _ => true
def trAssign {Γ : Gm} (rec : ∀ Γ (x : Expr), Option (RE Γ x)) (recT : ∀ Γ (x : Expr), Option (RT Γ x)) : (tgs : List Expr) → (x : Expr) → (pos : Pos) → Option (RS Γ (.Assign tgs x pos))
  | [.Name y p], .ListComp elt [⟨tg, iter, ifs, 0⟩] scope cp, pos => if h : nmB Γ (slot Γ.N y) y = true then match trComp (Γ := Γ) rec recT elt tg iter ifs scope with
    | some r => if Γ.mu.contains (slot Γ.N y) then some ⟨.set (slot Γ.N y) (.new (.comp (r.own.map (·.2)) r.c r.t r.it r.l)), fun o w => s_setLc o.toCtx (.inr rfl) (nm_of o h) o.kd (r.hi o) (r.ok o) (r.hg o) (r.ht o) (r.he o) (notSet_of r.hs) r.ho⟩
      else some ⟨.set (slot Γ.N y) (.comp (r.own.map (·.2)) r.c r.t r.it r.l), fun o w => s_setLc o.toCtx (.inl rfl) (nm_of o h) o.kd (r.hi o) (r.ok o) (r.hg o) (r.ht o) (r.he o) (notSet_of r.hs) r.ho⟩
    | none => none
    else none
  | [.Name y p], x, pos => if h : nmB Γ (slot Γ.N y) y = true ∧ isComp x = false then match rec Γ x with
    | some r => some ⟨.set (slot Γ.N y) (r.at (slot Γ.N y)).c, fun o w => s_set o.toCtx (nm_of o h.1) ((r.at _).ok o) h.2⟩
    | none => none
    else none
  | [.Subscript a k p], x, pos => match rec Γ a, rec Γ k, rec Γ x with
    | some r, some s, some t => some ⟨.put r.c s.c t.c, fun o w => s_put o.toCtx (r.ok o) (s.ok o) (t.ok o)⟩
    | _, _, _ => none
  | [.Tuple [.Name x px, .Name y py] kt pt], .Tuple [a, b] k2 pt2, pos => trPar2 (rec Γ) x y px py pt kt a b k2 pt2 pos
  | [.Tuple [.Name x px, .Name y py, .Name z pz] kt pt], .Tuple [a, b, c] k2 pt2, pos => trPar3 (rec Γ) x y z px py pz pt kt a b c k2 pt2 pos
  | [.Tuple es k p], x, pos => if h : isComp x = false ∧ notTup x = true then match trNms Γ es, rec Γ x with
    | some n, some r => some ⟨.unp (.tp n.is) r.c, fun o w => s_unp o.toCtx (n.ok o) (r.ok o) h.1 fun vs k p e => by rw [e] at h; exact Bool.noConfusion h.2⟩
    | _, _ => none
    else none
  | _, _, _ => none
def trDrop {Γ : Gm} (rec : (x : Expr) → Option (RE Γ x)) : (x : Expr) → (pos : Pos) → Option (RS Γ (.Expr x pos))
  | .Constant (.str d) j p, pos => some ⟨.pass, fun _ _ => s_doc⟩
  | .Call (.Attribute (.Name y p) at_ ap) [x] [] cp, pos => if h : at_ = "append" ∧ Γ.N[slot Γ.N y]? = some y ∧ visB Γ.sc y = true ∧ plainNm y = true ∧ notStar x = true ∧ (ap.endLine == cp.line) = true then match rec x with
    | some r => some ⟨.app (slot Γ.N y) r.c, fun o w => by
        obtain ⟨rfl, h1, h2, h3, h4, h5⟩ := h
        exact s_app o.toCtx (by rw [o.N]; exact h1) (vis_of (by rw [o.sc]; exact h2)) (plainNm_of h3).1 (plainNm_of h3).2.1 (r.ok o) h4 h5⟩
    | none => none
    else none
  | x, pos => if h : isComp x = false then match rec x with
    | some r => some ⟨.drop r.c, fun o w => s_drop (r.ok o) h⟩
    | none => none
    else none
def trS : Nat → (Γ : Gm) → (st : Stmt) → Option (RS Γ st)
  | 0, _, _ => none
  | _ + 1, _, .Pass pos => some ⟨.pass, fun _ _ => s_pass⟩
  | _ + 1, _, .Break pos => some ⟨.brk, fun _ _ => s_brk⟩
  | _ + 1, _, .Continue pos => some ⟨.cont, fun _ _ => s_cont⟩
  | _ + 1, _, .Return none pos => some ⟨.retN, fun _ _ => s_retN⟩
  | _ + 1, Γ, .Return (some x) pos => match (tr 20).1 Γ x with
    | some r => some ⟨.ret r.c, fun o _ => s_ret (r.ok o)⟩
    | none => none
  | _ + 1, Γ, .Expr x pos => trDrop ((tr 20).1 Γ) x pos
  | _ + 1, Γ, .Assign tgs x pos => trAssign (tr 20).1 (tr 20).2 tgs x pos
  | _ + 1, Γ, .AugAssign (.Name y p) op x pos => if h : nmB Γ (slot Γ.N y) y = true then match (tr 20).1 Γ x with
    | some r => some ⟨.aug op (slot Γ.N y) r.c, fun o _ => s_aug o.toCtx (nm_of o h) (r.ok o)⟩
    | none => none
    else none
  | n + 1, Γ, .If x a b pos => match (tr 20).2 Γ x, trSs (fun st => trS n Γ st) a, trSs (fun st => trS n Γ st) b with
    | some r, some s, some t => some ⟨.ite r.c s.b t.b, fun o w => s_if (r.ok o) (s.ok o w) (t.ok o w)⟩
    | _, _, _ => none
  | n + 1, Γ, .While x a [] pos => match (tr 20).2 Γ x, trSs (fun st => trS n Γ st) a with
    | some r, some s => some ⟨.while_ r.c s.b, fun o w => s_while w (r.ok o) (s.ok o w)⟩
    | _, _ => none
  | n + 1, Γ, .For tg iter a [] pos => if h : notSet iter = true then match trIt ((tr 20).1 Γ) tg iter, trTg Γ tg, trSs (fun st => trS n Γ st) a with
    | some i, some g, some s => some ⟨.for_ g.t i.c s.b, fun o w => s_for o.toCtx w (i.ok o) (g.ok o) (s.ok o w) (notSet_of h)⟩
    | _, _, _ => none
    else none
  | _ + 1, _, _ => none
def trBody (Γ : Gm) (sts : List Stmt) : Option (RSs Γ sts) := trSs (fun st => trS 20 Γ st) sts

/-! ### a def by its body -/
section
variable {P : Program} {w : World} {mg : Str → Option Value} {base : Heap} {B : Bs} {G : Sg}
def wExc (B : Bs) (E : XK) : WE := fun _ _ x g m H => ∀ cls d, ExAt B g H x cls d → E cls d H
theorem env_start {N : List Str} {g : Cfg} {H : Hp} {vs : List V} {ds : List D} (h : Dens B g H vs ds) : EnvR B g H (L2.start N vs) (ds.map some ++ List.replicate (N.length - ds.length) none) := by
  unfold L2.start
  refine ⟨by simp [h.length], fun i d hi => ?_⟩
  by_cases hl : i < ds.length
  · rw [List.getElem?_append_left (by simpa using hl), List.getElem?_map] at hi
    cases e : ds[i]? with
    | none => rw [e] at hi; cases hi
    | some d' =>
      rw [e] at hi
      cases hi
      obtain ⟨v, h1, h2⟩ := h.get e
      exact ⟨v, by rw [List.getElem?_append_left (by simpa [h.length] using hl), List.getElem?_map, h1]; rfl, h2⟩
  · rw [List.getElem?_append_right (by simpa using Nat.le_of_not_lt hl), List.getElem?_replicate] at hi
    split at hi <;> cases hi
theorem flp_out {g : Cfg} {H : Hp} {Q : VK} {E : XK} {f : Fl} (h : Post B g H (fun x g' m' H' => ∀ cls d, ExAt B g' H' x cls d → E cls d H') (fun g' m' H' d => ∀ v, Den B g' H' v d → Q v H') f.out) :
    FlP B g H (wExc B E) { nx := fun _ H' => Q .non H', rt := Q } f := by
  cases f with
  | rt d m => exact fun g' H' v x R hv => h g' H' x R v hv
  | nx e m => exact fun g' H' σ x R _ => h g' H' x R .non .non
  | exc y e m => exact fun g' H' σ x R _ => h g' H' x R
  | bk e m => exact h.elim
  | ct e m => exact h.elim
  | bad => exact h.elim
theorem fn_g {k : Nat} {f : Addr} {fd : FuncData} {x qual : Str} {st : Stmt} {N ps : List Str} {b : Ss} (F : Fun B.K x qual st f fd) (S : FnScope N ps (defScope st))
    (hb : ∀ (X : Cx), X.prog = P → X.w = w → X.K = B.K → X.mg = mg → X.base = base → X.calm = true → X.N = N → X.A.units + 200 < cLine → X.A.guards = some [] → Room k X.A → X.env.scope = defScope st → (∀ x, X.fn x = true) → Own X → ∀ E,
      (∀ σ, PassesAt (L2.CX X.prog X.w) X σ (EW B (wExc B E) σ)) → PSs X (defBody st) (tSs B G (wExc B E) b)) (hu : ∀ A : Around, Room k A → A.units + 200 < cLine) : FnG P w B.K mg base (k + 1) f fd ps (spOf B ps.length (fun ds m => bodyD G N.length b ds m)) := by
  obtain ⟨oc, od, kV, doc, pm, an, cdv, ct, osl, rfl, lk, hcd⟩ := F.ex
  have len : ∀ vs H Q E, spOf B ps.length (fun ds m => bodyD G N.length b ds m) vs H Q E → vs.length = ps.length := fun vs H Q E ⟨g, m, ds, R, hv, hl, p⟩ => by rw [hv.length, hl]
  refine ⟨len, fun A outer s H args us vs Q E hr hg e0 hbd r hsp => ?_⟩
  have hl := len _ _ _ _ hsp
  have KX : B.K.In s.heap := e0.mod.kin.keeps fun b o e => (e0.bs b o e).1
  have lim : s.heap.NoLimit := e0.mod.nolimit.keeps fun b o e => (e0.bs b o e).1
  have hkind : ∀ y ∈ ps.zip us, (defScope st).names.lookup y.1 = some .local ∨ ((defScope st).names.lookup y.1 = some .cell ∧ ((cellsFrom (s.heap.objs.size + 1) (defScope st).names []).lookup y.1).isSome = true) := fun ⟨n, v⟩ hy =>
    (S.par n (List.of_mem_zip hy).1).imp id fun q => ⟨q, PySem.W.cellsFrom_some _ _ _ (.inl q)⟩
  refine codeAny_call_function hr.depth (KX _ _ lk) rfl S.co S.gen rfl (PySem.W.codeRec_of KX hcd) (hbd _ _ _ _ ?_)
  refine wpAny_newFunctionEnv_cells S.kind hkind fun env he s1 x => ?_
  subst he
  refine ⟨lim.keeps x.toInCall.keep, codeAny_func ?_⟩
  have tk := takes_of (X := cxOf (L2.CX P w) P w B.K mg base N qual (defScope st) f cdv A outer s H E) (E := E) rfl rfl rfl rfl
  have body := hb (cxOf (L2.CX P w) P w B.K mg base N qual (defScope st) f cdv A outer s H E) rfl rfl rfl rfl rfl rfl rfl (hu _ (hr.deeper _)) hg (hr.deeper _) rfl (fun _ => rfl) PassesOwn.leaving E fun σ pins H' s' e s'' I c =>
    passes_call tk (W := fun cls d _ H => E cls d H) (E := EW B (wExc B E) σ) (fun cls d σ H ⟨e, x, g', m', _, _, ha, hw⟩ => hw cls d ha) pins σ H' s' e s'' I c
  have I : Inv (cxOf (L2.CX P w) P w B.K mg base N qual (defScope st) f cdv A outer s H E) [] (L2.start N vs) H s1 := inv_start S hr.hd e0 hl r x
  obtain ⟨g, m, ds, R, hv, hn, p⟩ := hsp
  have q : tSs B G (wExc B E) b { nx := fun _ H' => Q .non H', rt := Q } (L2.start N vs) H := ⟨g, m, _, R, env_start hv, flp_out p⟩
  refine wpAny_mono (body.run [] s1 (L2.start N vs) H _ I q) (fun fl s' hs => ?_) fun e s' hs => hs
  have fin : ∀ {σ' : L2.St} {H' : Hp} {v : V} {u : Value}, Inv (cxOf (L2.CX P w) P w B.K mg base N qual (defScope st) f cdv A outer s H E) [] σ' H' s' → RelV v u → Q v H' → CE outer P w H s Q u s' :=
    fun {σ' H' v u} J rv q => ⟨v, H', J.os, J.bare, J.base, J.hok, rv, q⟩
  cases fl with
  | ret u =>
    obtain ⟨v, σ', H', J, rv, q⟩ := hs
    exact fin J rv q
  | next =>
    obtain ⟨σ', H', J, q⟩ := hs
    exact fin (v := V.non) (u := Value.none) J rfl q
  | brk =>
    obtain ⟨_, _, _, q⟩ := hs
    exact False.elim q
  | cont =>
    obtain ⟨_, _, _, q⟩ := hs
    exact False.elim q
end
end Z
/-! ZF: a program of defs; the law at the top. -/
namespace Z
open PySem PySem.Spec PyProof.Rows L2 RZ

/-- a def of the program: its name, its text, its slots, its parameters, its code, the slots of things that change -/
structure Fd where
  nm : Str
  st : Stmt
  N : List Str
  ps : List Str
  mu : List Nat
  b : Ss
/-- what the defs do, by the number of calls that may be under way -/
noncomputable def progG (ds : List Fd) : Nat → Sg
  | 0, _, _, _ => .bad
  | k + 1, n, args, m => match ds[n]? with
    | some f => bodyD (progG ds k) f.N.length f.b args m
    | none => .bad
def npOf (ds : List Fd) (n : Nat) : Option Nat := (ds[n]?).map fun f => f.ps.length
def nmsOf (ds : List Fd) : List (Str × Nat) := ds.zipIdx.map fun p => (p.1.nm, p.2)
def gmOf (ds : List Fd) (bl : List Str) (shs : List Shp) (f : Fd) : Gm := ⟨f.N, defScope f.st, fun _ => true, nmsOf ds, bl, npOf ds, shs, f.mu⟩
theorem nms_get {ds : List Fd} {x : Str} {n : Nat} (h : (nmsOf ds).lookup x = some n) : ∃ f, ds[n]? = some f ∧ f.nm = x := by
  have hm := PySem.mem_of_lookup h
  unfold nmsOf at hm
  obtain ⟨⟨f, i⟩, h1, h2⟩ := List.mem_map.mp hm
  simp only [Prod.mk.injEq] at h2
  obtain ⟨rfl, rfl⟩ := h2
  obtain ⟨_, h3, h4⟩ := List.mem_zipIdx h1
  refine ⟨f, ?_, rfl⟩
  simp at h3 h4
  rw [List.getElem?_eq_getElem (by omega), h4]
section
variable {P : Program} {w : World} {mg : Str → Option Value} {base : Heap} {B : Bs}
/-- a def stands at its place -/
structure Stands (K : PySem.W.Frag) (mg : Str → Option Value) (shs : List Shp) (n : Nat) (f : Fd) (a : Addr) : Prop where
  mgf : mg f.nm = some (.ref a)
  kp : PySem.W.keepIn K (.ref a) = true
  fn : ∃ fd, Fun K f.nm f.nm f.st a fd ∧ Binds K fd f.ps [] ∧ ∀ s ∈ shs, s.n = n → s.np = f.ps.length → s.df = [] ∧ ∀ (st : Shared) (us ws : List Value), us.length = s.npos → ws.length = s.ks.length → BindsTo st fd ⟨us, s.ks.zip ws⟩ (f.ps.zip (placed f.ps.length us s.ix ws [] .none))
/-- the program as it is known -/
structure Known (B : Bs) (mg : Str → Option Value) (ds : List Fd) (bl : List Str) (shs : List Shp) : Prop where
  all : ∀ n f, ds[n]? = some f → ∃ a, B.fa n = some a ∧ Stands B.K mg shs n f a
  blt : ∀ x ∈ bl, mg x = none
  code : ∀ f ∈ ds, FnScope f.N f.ps (defScope f.st) ∧ ∃ r, trBody (gmOf ds bl shs f) (defBody f.st) = some r ∧ r.b = f.b
theorem fns_of {ds : List Fd} {bl : List Str} {shs : List Shp} (k : Known B mg ds bl shs) (j : Nat) (h : ∀ n f a fd, ds[n]? = some f → B.fa n = some a → Fun B.K f.nm f.nm f.st a fd → FnG P w B.K mg base j a fd f.ps (spOf B f.ps.length (progG ds j n))) :
    Fns P w mg base B (progG ds j) j (npOf ds) (· ∈ shs) := by
  refine ⟨fun n c hc => ?_⟩
  unfold npOf at hc
  obtain ⟨f, hf, rfl⟩ := Option.map_eq_some_iff.mp hc
  obtain ⟨a, ha, st⟩ := k.all n f hf
  obtain ⟨fd, F, hb, hs⟩ := st.fn
  refine ⟨a, fd, f.ps, ha, rfl, st.kp, hb, h n f a fd hf ha F, fun s hm e1 e2 => ?_⟩
  obtain ⟨e3, hs⟩ := hs s hm e1 e2
  exact ⟨[], [], ⟨by rw [e3]; exact .nil, .nil⟩, fun st us ws _ h1 h2 => hs st us ws h1 h2⟩
/-- every def keeps what its code promises, at every number of calls -/
theorem fng_at {ds : List Fd} {bl : List Str} {shs : List Shp} (k : Known B mg ds bl shs) : ∀ (j : Nat) (n : Nat) (f : Fd) (a : Addr) (fd : FuncData), ds[n]? = some f → B.fa n = some a → Fun B.K f.nm f.nm f.st a fd → FnG P w B.K mg base j a fd f.ps (spOf B f.ps.length (progG ds j n))
  | 0, n, f, a, fd, hf, ha, F => by
    refine ⟨fun vs H Q E ⟨g, m, ds, _, hv, hl, _⟩ => by rw [hv.length, hl], fun A outer s H args us vs Q E _ _ _ _ _ ⟨g, m, ds, _, _, _, p⟩ => ?_⟩
    exact p.elim
  | j + 1, n, f, a, fd, hf, ha, F => by
    have ih := fns_of (P := P) (w := w) (base := base) k j (fng_at k j)
    obtain ⟨sc, r, hr, hb⟩ := k.code f (List.mem_of_getElem? hf)
    have e : progG ds (j + 1) n = fun args m => bodyD (progG ds j) f.N.length f.b args m := by
      funext args m
      show (match ds[n]? with | some f => _ | none => _) = _
      rw [hf]
    rw [e, ← hb]
    refine fn_g F sc (fun X h1 h2 h3 h4 h5 h6 h7 h8 h9 h10 h11 h12 ow E hp => ?_) fun A hr => by have := hr.un; omega
    refine r.ok (W := wExc B E) ⟨⟨⟨h3, h6, by rw [h7]; exact sc.nd, h8, h9⟩, ⟨j, h10, ?_⟩, hp⟩, h7, h11, by rw [h11]; exact sc.kind, fun x _ => h12 x, fun x n hx a ha => ?_, fun x hx => by rw [h4]; exact k.blt x hx⟩ ow
    · rw [h1, h2, h4, h5]
      exact ih
    · obtain ⟨f', hf', rfl⟩ := nms_get hx
      obtain ⟨a', ha', st⟩ := k.all n f' hf'
      rw [ha'] at ha
      cases ha
      rw [h4]
      exact st.mgf
/-- a look at the code that stands in the text -/
theorem code_is {Γ : Gm} {sts : List Stmt} {b : Ss} (h : (trBody Γ sts).map (fun r => r.b) = some b) : ∃ r, trBody Γ sts = some r ∧ r.b = b := by
  obtain ⟨r, h1, h2⟩ := Option.map_eq_some_iff.mp h
  exact ⟨r, h1, h2⟩
end

/-! ### the law -/
/-- what a call of the law must come to, from a heap with the script -/
def LawEnds (S : List D → Mem → Out D) (most : Nat) : Prop := ∀ ns : List Int, ns.length ≤ most → ∃ m, S [.scr ns] [] = .ok (.bl true) m
theorem rl_none (B : Bs) (H : Hp) : Rl B ⟨[], fun _ => False⟩ [] H := ⟨List.nodup_nil, rfl, fun n a mo h _ => (by simp at h), fun a h => (by simp at h), fun a h => h.elim⟩
theorem law_run {P : Program} {w : World} {B : Bs} {mg mb : Str → Option Value} {k : Nat} {law scr : Addr} {fd : FuncData} {x : Str} {S : List D → Mem → Out D} {t : Shared} {vs : List Value} {ns : List Int} {most : Nat}
    (kin : B.K.In t.heap) (nsm : t.heap.Ns mainGlobals mg) (nsb : t.heap.Ns builtinsNs mb) (nsbb : ∀ x : Str, x ≠ "__name__" → mb x = bootBuiltins x) (lim : t.heap.NoLimit) (gens : t.gens = #[])
    (hs : t.heap.get? scr = some { cls := .type "list", data := .seq vs.toArray }) (are : IntsAre vs ns) (few : ns.length ≤ most) (mz : most ≤ sizeLine) (room : Room k callerA)
    (F : ∀ base : Heap, B.K.In base → base.Ns mainGlobals mg → FnG P w B.K mg base k law fd [x] (spOf B 1 S)) (bind : Binds B.K fd [x] []) (ends : LawEnds S most) :
    codeAny (model P w) callerA (.call (.ref law) ⟨[.ref scr], []⟩) (fun r s' => r = .ok (.ret (.bool true)) ∧ OldK t.heap s'.heap ∧ s'.os = t.os ∧ AllBare s'.gens) t := by
  have vals := vals_ints are
  have many := are.length
  have sz : ns.length ≤ sizeLine := Nat.le_trans few mz
  -- whatever is tracked is the script alone
  have main : ∀ T : Hp, HOk P w T t.heap → (∀ b, T b ≠ none → b = scr ∧ B.K.lookup scr = none ∧ T b = some (.frz { cls := .type "list", data := .seq vs.toArray } (.lst (ns.map V.int)))) → Den B ⟨[], fun _ => False⟩ T (.ref scr) (.scr ns) →
      codeAny (model P w) callerA (.call (.ref law) ⟨[.ref scr], []⟩) (fun r s' => r = .ok (.ret (.bool true)) ∧ OldK t.heap s'.heap ∧ s'.os = t.os ∧ AllBare s'.gens) t := by
    intro T ok sole den
    have free : ∀ {b : Addr} {o : Obj}, t.heap.get? b = some o → (∀ es ep, o.data = .dict es ep → T b = none) := fun {b o} e es ep d => by
      cases q : T b with
      | none => rfl
      | some u =>
        obtain ⟨rfl, _, _⟩ := sole b (by rw [q]; simp)
        rw [hs] at e
        cases e
        exact nomatch d
    have name : ∀ {b : Addr} {m : Str → Option Value}, t.heap.Ns b m → (hidT t.heap T).Ns b m := fun {b m} z => by
      obtain ⟨o, es, ep, e, d, r⟩ := z
      exact ⟨o, es, ep, hidT_get e (free e es ep d), d, r⟩
    have kin2 : B.K.In (hidT t.heap T) := fun b o e => by
      refine hidT_get (kin b o e) ?_
      cases q : T b with
      | none => rfl
      | some u =>
        obtain ⟨rfl, z, _⟩ := sole b (by rw [q]; simp)
        rw [z] at e
        cases e
    obtain ⟨mc, l1, l2⟩ := lim
    have env : Env0 P w B.K mg (hidT t.heap T) callerA [] t T :=
      ⟨rfl, ⟨kin2, name nsm, ⟨mb, name nsb, nsbb⟩, ⟨mc, name l1, l2⟩⟩, fun b o e => of_hidT e, by rw [hidT_size]; exact Nat.le_refl _, trivial, fun b z => (by cases z), ok, .of_eq gens⟩
    obtain ⟨m', eS⟩ := ends ns few
    have spec : spOf B 1 S [.ref scr] T (fun v _ => v = .bl true) (fun _ _ _ => False) := by
      refine ⟨⟨[], fun _ => False⟩, [], [.scr ns], rl_none B T, .cons den .nil, rfl, ?_⟩
      rw [eS]
      intro g' H' _ _ v hv
      cases hv
      rfl
    have run := (F _ kin2 (name nsm)).run callerA [] t T ⟨[.ref scr], []⟩ [.ref scr] [.ref scr] _ _ room rfl env (bind t [.ref scr] kin rfl) (.cons rfl .nil) spec
    refine codeAny_mono run fun r s' h => ?_
    match r, h with
    | .error e, h =>
      obtain ⟨_, _, _, _, _, _, _, _, _, _, _, _, bad⟩ := h
      exact bad.elim
    | .ok .next, h => exact False.elim h
    | .ok .brk, h => exact False.elim h
    | .ok .cont, h => exact False.elim h
    | .ok (.ret u), h =>
      obtain ⟨v, T', os, bare, un, ok', rv, q⟩ := h
      have e1 : v = .bl true := q
      subst e1
      obtain rfl : u = Value.bool true := rv
      refine ⟨rfl, OldK.of_keep fun b o e => ?_, os, bare⟩
      cases q : T b with
      | none => exact un.keep b o e q (fun z => by cases z) (fun z => by cases z)
      | some u =>
        obtain ⟨rfl, _, z⟩ := sole b (by rw [q]; simp)
        rw [hs] at e
        cases e
        exact (ok' _ _ (un.frzs _ _ _ z)).1
  cases known : B.K.lookup scr with
  | some o =>
    have e := kin scr o known
    rw [hs] at e
    cases e
    exact main (fun _ => none) (fun b u z => nomatch z) (fun b z => absurd rfl z) (.scrK fun H' => .inr ⟨_, vs.toArray, _, known, rfl, rfl, rfl, by rw [List.size_toArray, many]; exact sz, by simpa using vals⟩)
  | none =>
    refine main (fun b => if b = scr then some (.frz { cls := .type "list", data := .seq vs.toArray } (.lst (ns.map V.int))) else none) (fun b u z => ?_) (fun b z => ?_) (.scr (if_pos rfl))
    · by_cases hb : b = scr
      · cases (if_pos hb).symm.trans z
        rw [hb]
        exact ⟨hs, by rw [List.length_map]; exact sz, vs, _, vals, hs⟩
      · cases (if_neg hb).symm.trans z
    · by_cases hb : b = scr
      · exact ⟨hb, known, if_pos hb⟩
      · exact absurd (if_neg hb) z
/-- the goal that the head leaves -/
theorem law_walk {l : PySem.W.OpenLaw} {n k : Nat} {q : Program} {loose : List Str} {XP : (Str → Option Value) → Heap → Prop} {YP : World → Heap → Prop} {d : DefRec} {K : Params → PySem.W.Frag} {x : Str} {S : List D → Mem → Out D}
    (most : l.most = some n) (fits : n ≤ sizeLine) (nodef : d.params.defaults = []) (room : Room k callerA) (kin : ∀ (w : World) (h : Heap), YP w h → (K w.params).In h)
    (F : ∀ (w : World) (mg : Str → Option Value) (fa : Addr) (h : Heap), (K w.params).In h → h.Ns mainGlobals mg → mg d.name = some (.ref fa) → ∃ (B : Bs) (fd : FuncData), B.K = K w.params ∧ Binds (K w.params) fd [x] [] ∧
      ∀ base : Heap, (K w.params).In base → base.Ns mainGlobals mg → FnG l.prog w (K w.params) mg base k fa fd [x] (spOf B 1 S)) (ends : LawEnds S n) :
    PySem.W.WalkO q loose XP YP l.row.toRowW d [] (fun f vs => PySem.call f vs) := by
  refine Att.attach_call most nodef fun w s t mg mb fa o pm cd doc a vs ns gr y _ _ _ named obj are few gens => ?_
  have kx := kin w _ y
  obtain ⟨B, fd, eK, bind, run⟩ := F w mg fa _ kx gr.T.g named
  rw [← eK] at kx bind run
  exact law_run kx gr.T.g gr.T.b gr.T.builtins gr.T.nolimit gens obj are few fits room run bind ends
end Z
/-! ZG: what code comes to, by equations; loops; small data (plain Lean). -/
namespace Z
open PySem
section
variable {G : Sg} {e : Env} {m : Mem}
@[simp] theorem ev_var (i : Nat) : evalC G (.var i) e m = lift (e.getD i none) m := by rw [evalC]
@[simp] theorem ev_con (d : D) : evalC G (.con d) e m = .ok d m := by rw [evalC]
@[simp] theorem ev_tup (l : Cs) : evalC G (.tup l) e m = (evalCs G l e m).bind fun l m => .ok (.tup l) m := by rw [evalC]
@[simp] theorem ev_lst (l : Cs) : evalC G (.lst l) e m = (evalCs G l e m).bind fun l m => .ok (.lst l) m := by rw [evalC]
def newD (d : D) (m : Mem) : Out D := match d with
  | .lst l => .ok (.loc m.length) (m ++ [.lst l])
  | _ => .bad
@[simp] theorem newD_lst (l : List D) : newD (.lst l) m = .ok (.loc m.length) (m ++ [.lst l]) := rfl
@[simp] theorem ev_new (c : C) : evalC G (.new c) e m = (evalC G c e m).bind newD := by rw [evalC]; rfl
@[simp] theorem ev_dict (ks : List Str) (vs : Cs) : evalC G (.dict ks vs) e m = (evalCs G vs e m).bind fun l m => .ok (.loc m.length) (m ++ [.dk ((ks.map Sum.inr).zip l)]) := by rw [evalC]
@[simp] theorem ev_bin (op : Operator) (a b : C) : evalC G (.bin op a b) e m = (evalC G a e m).bind fun x m => (evalC G b e m).bind fun y m => lift (binD op m x y) m := by rw [evalC]
@[simp] theorem ev_neg (a : C) : evalC G (.neg a) e m = (evalC G a e m).bind fun x m => lift (negD x) m := by rw [evalC]
@[simp] theorem ev_cmp (op : CmpOp) (a b : C) : evalC G (.cmp op a b) e m = (evalC G a e m).bind fun x m => (evalC G b e m).bind fun y m => lift ((cmpD op m x y).map D.bl) m := by rw [evalC]
@[simp] theorem ev_chn (o1 o2 : CmpOp) (a b c : C) : evalC G (.chn o1 o2 a b c) e m = (evalC G a e m).bind fun x m => (evalC G b e m).bind fun y m => (lift (cmpD o1 m x y) m).bind fun k m =>
      if k then (evalC G c e m).bind fun z m => lift ((cmpD o2 m y z).map D.bl) m else .ok (.bl false) m := by rw [evalC]
@[simp] theorem ev_and (a b : C) : evalC G (.and a b) e m = (evalC G a e m).bind fun x m => (asBl x m).bind fun k m => if k then evalC G b e m else .ok (.bl false) m := by rw [evalC]
@[simp] theorem ev_or (a b : C) : evalC G (.or a b) e m = (evalC G a e m).bind fun x m => (asBl x m).bind fun k m => if k then .ok (.bl true) m else evalC G b e m := by rw [evalC]
@[simp] theorem ev_not (a : C) : evalC G (.not a) e m = (evalC G a e m).bind fun x m => (asBl x m).bind fun k m => .ok (.bl (!k)) m := by rw [evalC]
@[simp] theorem ev_ite (t a b : C) : evalC G (.ite t a b) e m = (evalC G t e m).bind fun x m => (asBl x m).bind fun k m => if k then evalC G a e m else evalC G b e m := by rw [evalC]
@[simp] theorem ev_sub (a i : C) : evalC G (.sub a i) e m = (evalC G a e m).bind fun x m => (evalC G i e m).bind fun y m => lift (subD m x y) m := by rw [evalC]
@[simp] theorem ev_cut (a : C) (lo hi : Co) : evalC G (.cut a lo hi) e m = (evalC G a e m).bind fun x m => (evalCo G lo e m).bind fun l m => (evalCo G hi e m).bind fun h m => lift (cutD m x l h) m := by rw [evalC]
@[simp] theorem ev_rev (a : C) : evalC G (.rev a) e m = (evalC G a e m).bind fun x m => lift (revD m x) m := by rw [evalC]
@[simp] theorem ev_call (f : Nat) (l : Cs) : evalC G (.call f l) e m = (evalCs G l e m).bind fun l m => G f l m := by rw [evalC]
@[simp] theorem ev_callk (f np : Nat) (l : Cs) (ix : List Nat) (kw : Cs) (df : List (Nat × D)) : evalC G (.callk f np l ix kw df) e m = (evalCs G l e m).bind fun l m => (evalCs G kw e m).bind fun k m => G f (placed np l ix k df .non) m := by rw [evalC]
@[simp] theorem ev_bi (b : Bi) (l : Cs) : evalC G (.bi b l) e m = (evalCs G l e m).bind fun l m => lift (biD b m l) m := by rw [evalC]
/-- a comprehension's items -/
def compD (G : Sg) (own : List Nat) (elt : C) (t : T) (ifs : Cs) (s : Src) (e : Env) (m : Mem) : Out (List D) :=
  (compGo s.stays (fun e m => evalC G elt e m) (fun e m => evalIfs G ifs e m) t s.items (wipe e own) m).calm
@[simp] theorem ev_comp (own : List Nat) (elt : C) (t : T) (it : C) (ifs : Cs) : evalC G (.comp own elt t it ifs) e m = ((evalIt G it e m).bind fun s m => compD G own elt t ifs s e m).bind fun l m => .ok (.lst l) m := by rw [evalC]; rfl
@[simp] theorem evs_nil : evalCs G .nil e m = .ok [] m := evalCs_nil e m
@[simp] theorem evs_cons (c : C) (l : Cs) : evalCs G (.cons c l) e m = (evalC G c e m).bind fun d m => (evalCs G l e m).bind fun ds m => .ok (d :: ds) m := by rw [evalCs]
@[simp] theorem evf_nil : evalIfs G .nil e m = .ok true m := by rw [evalIfs]
@[simp] theorem evf_cons (c : C) (l : Cs) : evalIfs G (.cons c l) e m = (evalC G c e m).bind fun d m => (asBl d m).bind fun k m => if k then evalIfs G l e m else .ok false m := by rw [evalIfs]
@[simp] theorem evo_none : evalCo G .none e m = .ok none m := by rw [evalCo]
def asIx (d : D) (m : Mem) : Out (Option Int) := match d with
  | .int i => .ok (some i) m
  | _ => .bad
@[simp] theorem asIx_int (i : Int) : asIx (.int i) m = .ok (some i) m := rfl
@[simp] theorem evo_some (c : C) : evalCo G (.some c) e m = (evalC G c e m).bind asIx := by rw [evalCo]; rfl
def rngS (d : D) (m : Mem) : Out Src := match d with
  | .int n => if -(2 ^ 62) ≤ n ∧ n ≤ sizeLine then .ok ⟨(List.range n.toNat).map fun (k : Nat) => D.int (k : Int), none⟩ m else .bad
  | _ => .bad
@[simp] theorem evi_rng (a : C) : evalIt G (.rng a) e m = (evalC G a e m).bind rngS := by rw [evalIt]; rfl
@[simp] theorem evi_zip (a b : C) : evalIt G (.zip a b) e m = (evalC G a e m).bind fun x m => (evalC G b e m).bind fun y m => lift (zipS m x y) m := by rw [evalIt]
theorem evi_plain {c : C} (h : plainIt c = true) : evalIt G c e m = (evalC G c e m).bind fun d m => lift (srcOf m d) m := evalIt_plain h e m
@[simp] theorem evi_var (i : Nat) : evalIt G (.var i) e m = (evalC G (.var i) e m).bind fun d m => lift (srcOf m d) m := evalIt_plain rfl e m
@[simp] theorem evi_con (d : D) : evalIt G (.con d) e m = (evalC G (.con d) e m).bind fun d m => lift (srcOf m d) m := evalIt_plain rfl e m
@[simp] theorem evi_ite (t a b : C) : evalIt G (.ite t a b) e m = (evalC G (.ite t a b) e m).bind fun d m => lift (srcOf m d) m := evalIt_plain rfl e m
@[simp] theorem evi_sub (a b : C) : evalIt G (.sub a b) e m = (evalC G (.sub a b) e m).bind fun d m => lift (srcOf m d) m := evalIt_plain rfl e m
@[simp] theorem evi_cut (a : C) (b c : Co) : evalIt G (.cut a b c) e m = (evalC G (.cut a b c) e m).bind fun d m => lift (srcOf m d) m := evalIt_plain rfl e m
@[simp] theorem evi_rev (a : C) : evalIt G (.rev a) e m = (evalC G (.rev a) e m).bind fun d m => lift (srcOf m d) m := evalIt_plain rfl e m
@[simp] theorem evi_lst (l : Cs) : evalIt G (.lst l) e m = (evalC G (.lst l) e m).bind fun d m => lift (srcOf m d) m := evalIt_plain rfl e m
@[simp] theorem evi_tup (l : Cs) : evalIt G (.tup l) e m = (evalC G (.tup l) e m).bind fun d m => lift (srcOf m d) m := evalIt_plain rfl e m
@[simp] theorem evi_call (f : Nat) (l : Cs) : evalIt G (.call f l) e m = (evalC G (.call f l) e m).bind fun d m => lift (srcOf m d) m := evalIt_plain rfl e m
@[simp] theorem evi_callk (f np : Nat) (l : Cs) (ix : List Nat) (kw : Cs) (df : List (Nat × D)) : evalIt G (.callk f np l ix kw df) e m = (evalC G (.callk f np l ix kw df) e m).bind fun d m => lift (srcOf m d) m := evalIt_plain rfl e m
@[simp] theorem evi_bi (b : Bi) (l : Cs) : evalIt G (.bi b l) e m = (evalC G (.bi b l) e m).bind fun d m => lift (srcOf m d) m := evalIt_plain rfl e m
@[simp] theorem evi_bin (op : Operator) (a b : C) : evalIt G (.bin op a b) e m = (evalC G (.bin op a b) e m).bind fun d m => lift (srcOf m d) m := evalIt_plain rfl e m
@[simp] theorem evi_comp (own : List Nat) (elt : C) (t : T) (it : C) (ifs : Cs) : evalIt G (.comp own elt t it ifs) e m = (evalC G (.comp own elt t it ifs) e m).bind fun d m => lift (srcOf m d) m := evalIt_plain rfl e m
@[simp] theorem asBl_bl (b : Bool) : asBl (.bl b) m = .ok b m := rfl
/-! ### statements -/
@[simp] theorem xs_nil : execSs G .nil e m = .nx e m := by rw [execSs]
@[simp] theorem xs_cons (s : S) (l : Ss) : execSs G (.cons s l) e m = (execS G s e m).andThen fun e m => execSs G l e m := by rw [execSs]
@[simp] theorem x_drop (c : C) : execS G (.drop c) e m = (evalC G c e m).fl e fun _ m => .nx e m := by rw [execS]
@[simp] theorem x_set (i : Nat) (c : C) : execS G (.set i c) e m = (evalC G c e m).fl e fun d m => .nx (e.set i (some d)) m := by rw [execS]
def unpD (t : T) (e : Env) (d : D) (m : Mem) : Fl := match t.bind d e with
  | some e => .nx e m
  | none => .bad
@[simp] theorem x_unp (t : T) (c : C) : execS G (.unp t c) e m = (evalC G c e m).fl e (unpD t e) := by rw [execS]; rfl
@[simp] theorem x_par (is : List Nat) (cs : Cs) : execS G (.par is cs) e m = (evalCs G cs e m).fl e fun ds m => .nx (setSome is ds e) m := by rw [execS]
def augF (op : Operator) (i : Nat) (x : D) (e : Env) (y : D) (m : Mem) : Fl := match augD op x y with
  | some z => .nx (e.set i (some z)) m
  | none => .bad
@[simp] theorem augF_add (i : Nat) (e : Env) (a b : Int) : augF .Add i (.int a) e (.int b) m = .nx (e.set i (some (.int (a + b)))) m := rfl
@[simp] theorem augF_sub (i : Nat) (e : Env) (a b : Int) : augF .Sub i (.int a) e (.int b) m = .nx (e.set i (some (.int (a - b)))) m := rfl
theorem x_aug (op : Operator) (i : Nat) (c : C) {x : D} (h : e.getD i none = some x) : execS G (.aug op i c) e m = (evalC G c e m).fl e (augF op i x e) := by
  rw [execS, h]
  rfl
def putF (o k v : D) (e : Env) (m : Mem) : Fl := match putD m o k v with
  | some m => .nx e m
  | none => .bad
@[simp] theorem x_put (o k v : C) : execS G (.put o k v) e m = (evalC G v e m).fl e fun v m => (evalC G o e m).fl e fun o m => (evalC G k e m).fl e fun k m => putF o k v e m := by rw [execS]; rfl
def appF (o v : D) (e : Env) (m : Mem) : Fl := match appD m o v with
  | some m => .nx e m
  | none => .bad
theorem x_app (i : Nat) (c : C) {o : D} {l : List D} (h : e.getD i none = some o) (hl : rdL m o = some l) : execS G (.app i c) e m = (evalC G c e m).fl e fun v m => appF o v e m := by
  rw [execS, h]
  dsimp only
  rw [hl]
  rfl
@[simp] theorem x_ret (c : C) : execS G (.ret c) e m = (evalC G c e m).fl e fun d m => .rt d m := by rw [execS]
@[simp] theorem x_retN : execS G .retN e m = .rt .non m := by rw [execS]
@[simp] theorem evt (c : C) : evalT G c e m = (evalC G c e m).bind fun d m => asBl d m := rfl
@[simp] theorem x_ite (t : C) (a b : Ss) : execS G (.ite t a b) e m = (evalT G t e m).fl e fun k m => if k then execSs G a e m else execSs G b e m := by rw [execS]
/-- a loop over a source -/
noncomputable def loopF (G : Sg) (b : Ss) (t : T) (s : Src) (e : Env) (m : Mem) : Fl := forGo s.stays (fun e m => execSs G b e m) t s.items e m
@[simp] theorem x_for (t : T) (it : C) (b : Ss) : execS G (.for_ t it b) e m = (evalIt G it e m).fl e fun s m => loopF G b t s e m := by rw [execS]; rfl
@[simp] theorem x_while (t : C) (b : Ss) : execS G (.while_ t b) e m = whileF (fun e m => evalT G t e m) (fun e m => execSs G b e m) e m := by rw [execS]
@[simp] theorem x_brk : execS G .brk e m = .bk e m := by rw [execS]
@[simp] theorem x_cont : execS G .cont e m = .ct e m := by rw [execS]
@[simp] theorem x_pass : execS G .pass e m = .nx e m := by rw [execS]
@[simp] theorem out_rt (d : D) : (Fl.rt d m).out = .ok d m := rfl
@[simp] theorem out_nx : (Fl.nx e m).out = .ok .non m := rfl
end
theorem progG_at {ds : List Fd} {k n : Nat} {f : Fd} (h : ds[n]? = some f) (args : List D) (m : Mem) : progG ds (k + 1) n args m = bodyD (progG ds k) f.N.length f.b args m := by
  show (match ds[n]? with | some f => _ | none => _) = _
  rw [h]
/-! ### flat memory facts -/
@[simp] theorem src_none (l : List D) (m : Mem) : (Src.mk l none).stays m = true := rfl
theorem src_at {l : List D} {n : Nat} {m : Mem} (h : m[n]? = some (.lst l)) : (Src.mk l (some n)).stays m = true := sameL_refl h
/-! ### comprehensions -/
section
variable {stays : Mem → Bool} {f : Env → Mem → Out D} {p : Env → Mem → Out Bool} {t : T}
/-- each item chosen or not, its value; the memory as it was -/
theorem compGo_pure {e : Env} {m : Mem} (h0 : stays m = true) (c : D → Bool) (v : D → D) : ∀ {ds : List D}, (∀ d ∈ ds, ∃ e', t.bind d e = some e' ∧ p e' m = .ok (c d) m ∧ (c d = true → f e' m = .ok (v d) m)) →
    compGo stays f p t ds e m = .ok ((ds.filter c).map v) m
  | [], _ => by unfold compGo; rw [if_pos h0]; rfl
  | d :: ds, h => by
    obtain ⟨e', h1, h2, h3⟩ := h d (List.mem_cons_self ..)
    have ih := compGo_pure h0 c v (fun d hd => h d (List.mem_cons_of_mem _ hd))
    unfold compGo
    rw [if_pos h0, h1]
    dsimp only
    rw [h2, Out.bind_ok, List.filter_cons]
    cases hc : c d with
    | true =>
      rw [if_pos rfl, if_pos rfl, h3 hc, Out.bind_ok, ih, Out.bind_ok, List.map_cons]
    | false =>
      rw [if_neg Bool.false_ne_true, if_neg Bool.false_ne_true, ih]
/-- every item, with an effect kept by M: the values are as P says -/
theorem compGo_eff {e : Env} {M : Mem → Prop} {P : D → D → Prop} (h0 : ∀ m, M m → stays m = true) : ∀ {ds : List D} {m : Mem}, M m → (∀ d ∈ ds, ∀ m, M m → ∃ e', t.bind d e = some e' ∧ p e' m = .ok true m ∧ ∃ v m', f e' m = .ok v m' ∧ M m' ∧ P d v) →
    ∃ vs m', compGo stays f p t ds e m = .ok vs m' ∧ M m' ∧ Paired P ds vs
  | [], m, hm, _ => ⟨[], m, by unfold compGo; rw [if_pos (h0 m hm)], hm, .nil⟩
  | d :: ds, m, hm, h => by
    obtain ⟨e', h1, h2, v, m', h3, h4, h5⟩ := h d (List.mem_cons_self ..) m hm
    obtain ⟨vs, m2, h6, h7, h8⟩ := compGo_eff h0 h4 (fun d hd => h d (List.mem_cons_of_mem _ hd))
    refine ⟨v :: vs, m2, ?_, h7, .cons h5 h8⟩
    unfold compGo
    rw [if_pos (h0 m hm), h1]
    dsimp only
    rw [h2, Out.bind_ok, if_pos rfl, h3, Out.bind_ok, h6, Out.bind_ok]
end
/-! ### loops -/
/-- a loop that goes through its items: I by what is left -/
theorem forGo_inv {stays : Mem → Bool} {b : Env → Mem → Fl} {t : T} (I : List D → Env → Mem → Prop) (h0 : ∀ l e m, I l e m → stays m = true) (hs : ∀ d l e m, I (d :: l) e m → ∃ e1, t.bind d e = some e1 ∧ ∃ e' m', b e1 m = .nx e' m' ∧ I l e' m') :
    ∀ {ds : List D} {e : Env} {m : Mem}, I ds e m → ∃ e' m', forGo stays b t ds e m = .nx e' m' ∧ I [] e' m'
  | [], e, m, h => ⟨e, m, by unfold forGo; rw [if_pos (h0 _ e m h)], h⟩
  | d :: ds, e, m, h => by
    obtain ⟨e1, h1, e', m', h2, h3⟩ := hs d ds e m h
    obtain ⟨e2, m2, h4, h5⟩ := forGo_inv I h0 hs h3
    refine ⟨e2, m2, ?_, h5⟩
    unfold forGo
    rw [if_pos (h0 _ e m h), h1]
    dsimp only
    rw [h2]
    exact h4
/-- a loop whose items all keep I -/
theorem forGo_all {stays : Mem → Bool} {b : Env → Mem → Fl} {t : T} (I : Env → Mem → Prop) {ds : List D} (h0 : ∀ e m, I e m → stays m = true) (hs : ∀ d ∈ ds, ∀ e m, I e m → ∃ e1, t.bind d e = some e1 ∧ ∃ e' m', b e1 m = .nx e' m' ∧ I e' m')
    {e : Env} {m : Mem} (h : I e m) : ∃ e' m', forGo stays b t ds e m = .nx e' m' ∧ I e' m' := by
  obtain ⟨e', m', h1, h2, _⟩ := forGo_inv (stays := stays) (b := b) (t := t) (fun l e m => I e m ∧ ∀ d ∈ l, d ∈ ds) (fun l e m z => h0 e m z.1) (fun d l e m z => by
    obtain ⟨e1, h1, e', m', h2, h3⟩ := hs d (z.2 d (List.mem_cons_self ..)) e m z.1
    exact ⟨e1, h1, e', m', h2, h3, fun d hd => z.2 d (List.mem_cons_of_mem _ hd)⟩) (ds := ds) ⟨h, fun d hd => hd⟩
  exact ⟨e', m', h1, h2⟩
/-- a loop over a source, I by what is left -/
theorem loop_inv {G : Sg} {b : Ss} {t : T} {s : Src} (I : List D → Env → Mem → Prop) (h0 : ∀ l e m, I l e m → s.stays m = true) (hs : ∀ d l e m, I (d :: l) e m → ∃ e1, t.bind d e = some e1 ∧ ∃ e' m', execSs G b e1 m = .nx e' m' ∧ I l e' m')
    {e : Env} {m : Mem} (h : I s.items e m) : ∃ e' m', loopF G b t s e m = .nx e' m' ∧ I [] e' m' := forGo_inv I h0 hs h
/-- .. whose items all keep I -/
theorem loop_all {G : Sg} {b : Ss} {t : T} {s : Src} (I : Env → Mem → Prop) (h0 : ∀ e m, I e m → s.stays m = true) (hs : ∀ d ∈ s.items, ∀ e m, I e m → ∃ e1, t.bind d e = some e1 ∧ ∃ e' m', execSs G b e1 m = .nx e' m' ∧ I e' m')
    {e : Env} {m : Mem} (h : I e m) : ∃ e' m', loopF G b t s e m = .nx e' m' ∧ I e' m' := forGo_all I h0 hs h
end Z
/-! ZH: small data: shown, compared, told by kind (plain Lean). -/
namespace Z
open PySem
/-- data of at most a weight and a depth -/
structure Small (w p : Nat) (x : PyData) : Prop where
  lay : x.canLay0 = true
  vis : x.showable = true
  leaf : x.leavesShort 1921 = true
  dep : x.depth ≤ p
  wgt : x.weight ≤ w
def Sm (w p : Nat) (d : D) : Prop := ∃ x, toPy d = some x ∧ Small w p x
variable {w w' p p' n : Nat} {d a b : D} {m : Mem} {l : List D}
theorem Sm.mono (h : Sm w p d) (h1 : w ≤ w') (h2 : p ≤ p') : Sm w' p' d := by
  obtain ⟨x, e, s⟩ := h
  exact ⟨x, e, s.lay, s.vis, s.leaf, Nat.le_trans s.dep h2, Nat.le_trans s.wgt h1⟩
theorem sm_non : Sm 0 0 .non := ⟨.none, rfl, rfl, rfl, rfl, Nat.le_refl _, Nat.le_refl _⟩
theorem sm_bl (k : Bool) : Sm 0 0 (.bl k) := ⟨.bool k, rfl, rfl, rfl, rfl, Nat.le_refl _, Nat.le_refl _⟩
theorem sm_int {i : Int} {k : Nat} (h : i.natAbs < 2 ^ k) (hk : k ≤ 1900) : Sm k 0 (.int i) := by
  have l2 : i.natAbs.log2 < 1920 := by
    by_cases z : i.natAbs = 0
    · rw [z]; decide
    · exact Nat.lt_of_lt_of_le ((Nat.log2_lt z).mpr h) (by omega)
  refine ⟨.int i, rfl, rfl, by simpa only [PyData.showable, decide_eq_true_eq] using l2, ?_, Nat.zero_le _, ?_⟩
  · simp only [PyData.leavesShort, decide_eq_true_eq]
    show (Str.ofString (toString i)).length ≤ 1921
    rw [ofString_length]
    exact int_text_length_le (by decide) l2
  · simp only [PyData.weight]
    by_cases z : i.natAbs = 0
    · have e : i = 0 := Int.natAbs_eq_zero.mp z
      rw [e]; exact Nat.zero_le _
    · have q := (Nat.log2_lt z).mpr h
      split <;> omega
theorem sm_str {s : Str} (h : PyData.strOk s = true) : Sm s.length 0 (.str s) := by
  refine ⟨.str s, rfl, h, rfl, ?_, Nat.zero_le _, Nat.le_refl _⟩
  simp only [PyData.leavesShort, List.all_eq_true, decide_eq_true_eq]
  intro c hc
  unfold PyData.strOk at h
  rw [← Array.all_toList, List.all_eq_true] at h
  have := h c hc
  simp only [decide_eq_true_eq] at this
  omega
theorem sm_all : ∀ {l : List D}, (∀ d ∈ l, Sm w p d) → ∃ xs, toPys l = some xs ∧ PyData.canLayAll0 xs = true ∧ PyData.showableAll xs = true ∧ PyData.leavesShortAll 1921 xs = true ∧ PyData.depthAll xs ≤ p ∧ PyData.weightAll xs ≤ l.length * (w + 1) ∧ xs.length = l.length
  | [], _ => ⟨[], rfl, rfl, rfl, rfl, Nat.zero_le _, Nat.zero_le _, rfl⟩
  | d :: l, h => by
    obtain ⟨x, e, s⟩ := h d (List.mem_cons_self ..)
    obtain ⟨xs, h1, h2, h3, h4, h5, h6, h7⟩ := sm_all (l := l) fun d hd => h d (List.mem_cons_of_mem _ hd)
    refine ⟨x :: xs, by simp only [toPys, e, h1], ?_, ?_, ?_, ?_, ?_, by rw [List.length_cons, List.length_cons, h7]⟩
    · simp only [PyData.canLayAll0, s.lay, h2, Bool.and_self]
    · simp only [PyData.showableAll, s.vis, h3, Bool.and_self]
    · simp only [PyData.leavesShortAll, s.leaf, h4, Bool.and_self]
    · simp only [PyData.depthAll]
      exact Nat.max_le.mpr ⟨s.dep, h5⟩
    · simp only [PyData.weightAll, List.length_cons, Nat.add_mul, Nat.one_mul]
      have := s.wgt
      omega
theorem sm_tup (h : ∀ d ∈ l, Sm w p d) (hl : l.length ≤ n) : Sm (n * (w + 1)) (p + 1) (.tup l) := by
  obtain ⟨xs, h1, h2, h3, h4, h5, h6, h7⟩ := sm_all h
  refine ⟨.tuple xs, by simp only [toPy, h1], by simpa only [PyData.canLay0] using h2, by simpa only [PyData.showable] using h3, by simpa only [PyData.leavesShort] using h4, ?_, ?_⟩
  · simp only [PyData.depth]; omega
  · simp only [PyData.weight]
    exact Nat.le_trans h6 (Nat.mul_le_mul_right _ hl)
theorem sm_lst (h : ∀ d ∈ l, Sm w p d) (hl : l.length ≤ n) : Sm (n * (w + 1)) (p + 1) (.lst l) := by
  obtain ⟨xs, h1, h2, h3, h4, h5, h6, h7⟩ := sm_all h
  refine ⟨.list xs, by simp only [toPy, h1], by simpa only [PyData.canLay0] using h2, by simpa only [PyData.showable] using h3, by simpa only [PyData.leavesShort] using h4, ?_, ?_⟩
  · simp only [PyData.depth]; omega
  · simp only [PyData.weight]
    exact Nat.le_trans h6 (Nat.mul_le_mul_right _ hl)
theorem Sm.top (h : Sm w p d) : top m d = d := by
  obtain ⟨x, e, _⟩ := h
  cases d <;> first | rfl | (simp [toPy] at e)
theorem Sm.py (h : Sm w p d) : ∃ x, pyOf m d = some x ∧ toPy d = some x ∧ Small w p x := by
  obtain ⟨x, e, s⟩ := id h
  exact ⟨x, by unfold pyOf; rw [h.top]; exact e, e, s⟩
/-- its text: the same in every memory -/
theorem Sm.repr (h : Sm w p d) (hp : p ≤ 60) (hw : w ≤ 8000) : ∃ s, ∀ m, reprD m d = some (.str s) := by
  obtain ⟨x, e, s⟩ := id h
  refine ⟨x.shown, fun m => ?_⟩
  unfold reprD
  have e' : pyOf m d = some x := by unfold pyOf; rw [h.top]; exact e
  rw [e']
  have q := PyData.shown_le 1921 (by decide) x s.leaf
  have q2 : (1921 + 2) * x.weight ≤ 1923 * 8000 := Nat.mul_le_mul (Nat.le_refl _) (Nat.le_trans s.wgt hw)
  have q3 : x.shown.length ≤ sizeLine := by rw [sizeLine_eq]; omega
  have q4 : x.depth ≤ 60 := Nat.le_trans s.dep hp
  simp only [s.lay, s.vis, decide_eq_true q3, decide_eq_true q4, Bool.and_self, if_true]
theorem Small.shaped {x : PyData} (h : Small w p x) (hp : p ≤ 64) : SeqAt.shaped x = true := by
  unfold SeqAt.shaped
  rw [h.lay, decide_eq_true (Nat.le_trans h.dep hp)]
  rfl
/-! ### the text of a pair of truths -/
theorem repr_bls (a b : Bool) : ∃ s, ∀ m, reprD m (.tup [.bl a, .bl b]) = some (.str s) :=
  (sm_tup (w := 0) (p := 0) (n := 2) (l := [.bl a, .bl b]) (fun d hd => by
    rcases List.mem_cons.mp hd with rfl | hd
    · exact sm_bl _
    · rw [List.mem_singleton.mp hd]; exact sm_bl _) (Nat.le_refl _)).repr (by decide) (by decide)
/-! ### lists of ints compared -/
theorem toPys_ints : ∀ ns : List Int, toPys (ns.map D.int) = some (ns.map PyData.int)
  | [] => rfl
  | n :: ns => by simp only [List.map_cons, toPys, toPy, toPys_ints ns]
theorem lay_ints : ∀ ns : List Int, PyData.canLayAll0 (ns.map PyData.int) = true
  | [] => rfl
  | n :: ns => by simp only [List.map_cons, PyData.canLayAll0, PyData.canLay0, lay_ints ns, Bool.and_self]
theorem dep_ints : ∀ ns : List Int, PyData.depthAll (ns.map PyData.int) = 0
  | [] => rfl
  | n :: ns => by simp only [List.map_cons, PyData.depthAll, PyData.depth, dep_ints ns, Nat.max_self]
theorem eqv_ints : ∀ xs ys : List Int, PyData.eqvAll (xs.map PyData.int) (ys.map PyData.int) = decide (xs = ys)
  | [], [] => rfl
  | [], _ :: _ => rfl
  | _ :: _, [] => rfl
  | x :: xs, y :: ys => by
    simp only [List.map_cons, PyData.eqvAll, PyData.eqv, eqv_ints xs ys, List.cons.injEq, Bool.decide_and]
    rfl
theorem eqD_tups (xs ys : List Int) : eqD m (.tup (xs.map D.int)) (.tup (ys.map D.int)) = some (decide (xs = ys)) := by
  show eqP m _ _ = _
  unfold eqP pyOf top
  simp only [toPy, toPys_ints]
  unfold SeqAt.shaped
  simp only [PyData.canLay0, lay_ints, PyData.depth, dep_ints, PyData.eqv, eqv_ints]
  rfl
theorem eqD_lsts (xs ys : List Int) : eqD m (.lst (xs.map D.int)) (.lst (ys.map D.int)) = some (decide (xs = ys)) := by
  show eqP m _ _ = _
  unfold eqP pyOf top
  simp only [toPy, toPys_ints]
  unfold SeqAt.shaped
  simp only [PyData.canLay0, lay_ints, PyData.depth, dep_ints, PyData.eqv, eqv_ints]
  rfl
@[simp] theorem eqD_int (x y : Int) : eqD m (.int x) (.int y) = some (decide (x = y)) := rfl
@[simp] theorem eqD_str (x y : Str) : eqD m (.str x) (.str y) = some (decide (x = y)) := rfl
/-! ### kinds -/
theorem asBools_map : ∀ bs : List Bool, asBools (bs.map D.bl) = some bs
  | [] => rfl
  | b :: bs => by simp only [List.map_cons, asBools, asBools_map bs, Option.map_some]
theorem asInts_map : ∀ ns : List Int, asInts (ns.map D.int) = some ns
  | [] => rfl
  | n :: ns => by simp only [List.map_cons, asInts, asInts_map ns, Option.map_some]
@[simp] theorem bi_isinst (d : D) (t : String) : biD .isinst m [d, .ty t] = (isinstD m d t).map D.bl := rfl
@[simp] theorem isi_non_int  : isinstD m .non "int" = some false := rfl
@[simp] theorem isi_non_bool  : isinstD m .non "bool" = some false := rfl
@[simp] theorem isi_non_str  : isinstD m .non "str" = some false := rfl
@[simp] theorem isi_non_tuple  : isinstD m .non "tuple" = some false := rfl
@[simp] theorem isi_non_list  : isinstD m .non "list" = some false := rfl
@[simp] theorem isi_bl_int (b : Bool) : isinstD m (.bl b) "int" = some true := rfl
@[simp] theorem isi_bl_bool (b : Bool) : isinstD m (.bl b) "bool" = some true := rfl
@[simp] theorem isi_bl_str (b : Bool) : isinstD m (.bl b) "str" = some false := rfl
@[simp] theorem isi_bl_tuple (b : Bool) : isinstD m (.bl b) "tuple" = some false := rfl
@[simp] theorem isi_bl_list (b : Bool) : isinstD m (.bl b) "list" = some false := rfl
@[simp] theorem isi_int_int (i : Int) : isinstD m (.int i) "int" = some true := rfl
@[simp] theorem isi_int_bool (i : Int) : isinstD m (.int i) "bool" = some false := rfl
@[simp] theorem isi_int_str (i : Int) : isinstD m (.int i) "str" = some false := rfl
@[simp] theorem isi_int_tuple (i : Int) : isinstD m (.int i) "tuple" = some false := rfl
@[simp] theorem isi_int_list (i : Int) : isinstD m (.int i) "list" = some false := rfl
@[simp] theorem isi_str_int (s : Str) : isinstD m (.str s) "int" = some false := rfl
@[simp] theorem isi_str_bool (s : Str) : isinstD m (.str s) "bool" = some false := rfl
@[simp] theorem isi_str_str (s : Str) : isinstD m (.str s) "str" = some true := rfl
@[simp] theorem isi_str_tuple (s : Str) : isinstD m (.str s) "tuple" = some false := rfl
@[simp] theorem isi_str_list (s : Str) : isinstD m (.str s) "list" = some false := rfl
@[simp] theorem isi_tup_int (l : List D) : isinstD m (.tup l) "int" = some false := rfl
@[simp] theorem isi_tup_bool (l : List D) : isinstD m (.tup l) "bool" = some false := rfl
@[simp] theorem isi_tup_str (l : List D) : isinstD m (.tup l) "str" = some false := rfl
@[simp] theorem isi_tup_tuple (l : List D) : isinstD m (.tup l) "tuple" = some true := rfl
@[simp] theorem isi_tup_list (l : List D) : isinstD m (.tup l) "list" = some false := rfl
@[simp] theorem isi_lst_int (l : List D) : isinstD m (.lst l) "int" = some false := rfl
@[simp] theorem isi_lst_bool (l : List D) : isinstD m (.lst l) "bool" = some false := rfl
@[simp] theorem isi_lst_str (l : List D) : isinstD m (.lst l) "str" = some false := rfl
@[simp] theorem isi_lst_tuple (l : List D) : isinstD m (.lst l) "tuple" = some false := rfl
@[simp] theorem isi_lst_list (l : List D) : isinstD m (.lst l) "list" = some true := rfl
@[simp] theorem cmpD_eq (a b : D) : cmpD .Eq m a b = eqD m a b := rfl
@[simp] theorem cmpD_ne (a b : D) : cmpD .NotEq m a b = (eqD m a b).map (!·) := rfl
@[simp] theorem cmpD_lt (a b : Int) : cmpD .Lt m (.int a) (.int b) = some (decide (a < b)) := rfl
@[simp] theorem cmpD_le (a b : Int) : cmpD .LtE m (.int a) (.int b) = some (decide (a ≤ b)) := rfl
@[simp] theorem cmpD_gt (a b : Int) : cmpD .Gt m (.int a) (.int b) = some (decide (b < a)) := rfl
@[simp] theorem cmpD_ge (a b : Int) : cmpD .GtE m (.int a) (.int b) = some (decide (b ≤ a)) := rfl
@[simp] theorem binD_add (a b : Int) : binD .Add m (.int a) (.int b) = some (.int (a + b)) := rfl
@[simp] theorem binD_sub (a b : Int) : binD .Sub m (.int a) (.int b) = some (.int (a - b)) := rfl
theorem binD_mul {a b : Int} (h : smallMul a b = true) : binD .Mult m (.int a) (.int b) = some (.int (a * b)) := by unfold binD; simp only [h, if_true]
theorem binD_mod {a b : Int} (h : 0 < b) : binD .Mod m (.int a) (.int b) = some (.int (a % b)) := by unfold binD; simp only [h, if_true]
theorem binD_div {a b : Int} (h : 0 < b) (h2 : b < 1073741824) : binD .FloorDiv m (.int a) (.int b) = some (.int (a / b)) := by unfold binD; simp only [h, h2, and_self, if_true]
theorem binD_lst {a b : List D} (h : a.length + b.length ≤ sizeLine) : binD .Add m (.lst a) (.lst b) = some (.lst (a ++ b)) := by unfold binD; simp only [rdL, h, if_true]
theorem binD_tup {a b : List D} (h : a.length + b.length ≤ sizeLine) : binD .Add m (.tup a) (.tup b) = some (.tup (a ++ b)) := by unfold binD; simp only [h, if_true]
theorem binD_str {a b : Str} (h : a.length + b.length ≤ sizeLine) : binD .Add m (.str a) (.str b) = some (.str (a ++ b)) := by unfold binD; simp only [h, if_true]
@[simp] theorem negD_int (a : Int) : negD (.int a) = some (.int (-a)) := rfl
@[simp] theorem bi_len_tup (l : List D) : biD .len m [.tup l] = some (.int l.length) := rfl
@[simp] theorem bi_len_lst (l : List D) : biD .len m [.lst l] = some (.int l.length) := rfl
@[simp] theorem bi_list_tup (l : List D) : biD .list m [.tup l] = some (.lst l) := rfl
@[simp] theorem bi_list_lst (l : List D) : biD .list m [.lst l] = some (.lst l) := rfl
@[simp] theorem bi_tuple_lst (l : List D) : biD .tuple m [.lst l] = some (.tup l) := rfl
@[simp] theorem bi_tuple_tup (l : List D) : biD .tuple m [.tup l] = some (.tup l) := rfl
@[simp] theorem bi_repr (d : D) : biD .repr m [d] = reprD m d := rfl
theorem bi_all (bs : List Bool) : biD .all m [.lst (bs.map D.bl)] = some (.bl (bs.all id)) := (show biD .all m [.lst (bs.map D.bl)] = (asBools (bs.map D.bl)).map (fun bs => D.bl (bs.all id)) from rfl).trans (by rw [asBools_map]; rfl)
theorem bi_any (bs : List Bool) : biD .any m [.lst (bs.map D.bl)] = some (.bl (bs.any id)) := (show biD .any m [.lst (bs.map D.bl)] = (asBools (bs.map D.bl)).map (fun bs => D.bl (bs.any id)) from rfl).trans (by rw [asBools_map]; rfl)
theorem bi_sum (ns : List Int) : biD .sum m [.lst (ns.map D.int)] = some (.int ns.sum) := (show biD .sum m [.lst (ns.map D.int)] = (asInts (ns.map D.int)).map (fun ns => D.int ns.sum) from rfl).trans (by rw [asInts_map]; rfl)
def srt (ns : List Int) : List Int := ns.mergeSort (fun a b => decide (a ≤ b))
theorem bi_sorted_lst (ns : List Int) : biD .sorted m [.lst (ns.map D.int)] = some (.lst ((srt ns).map D.int)) := (show biD .sorted m [.lst (ns.map D.int)] = (asInts (ns.map D.int)).map (fun ns => D.lst ((srt ns).map D.int)) from rfl).trans (by rw [asInts_map]; rfl)
theorem bi_sorted_tup (ns : List Int) : biD .sorted m [.tup (ns.map D.int)] = some (.lst ((srt ns).map D.int)) := (show biD .sorted m [.tup (ns.map D.int)] = (asInts (ns.map D.int)).map (fun ns => D.lst ((srt ns).map D.int)) from rfl).trans (by rw [asInts_map]; rfl)
theorem srt_perm (ns : List Int) : (srt ns).Perm ns := List.mergeSort_perm ns _
theorem srt_sorted (ns : List Int) : (srt ns).Pairwise (· ≤ ·) := by
  have := List.pairwise_mergeSort (le := fun a b : Int => decide (a ≤ b)) (by intro a b c h1 h2; simp at *; omega) (by intro a b; simp; omega) ns
  exact this.imp fun h => by simpa using h
@[simp] theorem revD_lst (l : List D) : revD m (.lst l) = some (.lst l.reverse) := rfl
@[simp] theorem revD_tup (l : List D) : revD m (.tup l) = some (.tup l.reverse) := rfl
@[simp] theorem src_tup (l : List D) : srcOf m (.tup l) = some ⟨l, none⟩ := rfl
@[simp] theorem src_lst (l : List D) : srcOf m (.lst l) = some ⟨l, none⟩ := rfl
@[simp] theorem zip_tup (x y : List D) : zipS m (.tup x) (.tup y) = some ⟨(x.zip y).map fun p => .tup [p.1, p.2], none⟩ := rfl
@[simp] theorem zip_lst (x y : List D) : zipS m (.lst x) (.lst y) = some ⟨(x.zip y).map fun p => .tup [p.1, p.2], none⟩ := rfl
@[simp] theorem bind_nm (i : Nat) (d : D) (e : Env) : T.bind (.nm i) d e = some (e.set i (some d)) := rfl
@[simp] theorem bind_tp2 (i j : Nat) (a b : D) (e : Env) : T.bind (.tp [i, j]) (.tup [a, b]) e = some ((e.set i (some a)).set j (some b)) := rfl
theorem rng_int {n : Int} (h : -(2 ^ 62) ≤ n ∧ n ≤ sizeLine) : rngS (.int n) m = .ok ⟨(List.range n.toNat).map fun (k : Nat) => D.int (k : Int), none⟩ m := by unfold rngS; simp only [if_pos h]
/-- a comprehension over a source that stays, whose values leave the memory as it is -/
theorem comp_pure {G : Sg} {own : List Nat} {elt : C} {t : T} {ifs : Cs} {s : Src} {e : Env} (h0 : s.stays m = true) (c : D → Bool) (v : D → D)
    (h : ∀ d ∈ s.items, ∃ e', t.bind d (wipe e own) = some e' ∧ evalIfs G ifs e' m = .ok (c d) m ∧ (c d = true → evalC G elt e' m = .ok (v d) m)) : compD G own elt t ifs s e m = .ok ((s.items.filter c).map v) m := by
  unfold compD
  rw [compGo_pure h0 c v h]
  rfl
/-- every item kept -/
theorem comp_map {G : Sg} {own : List Nat} {elt : C} {t : T} {s : Src} {e : Env} (h0 : s.stays m = true) (v : D → D)
    (h : ∀ d ∈ s.items, ∃ e', t.bind d (wipe e own) = some e' ∧ evalC G elt e' m = .ok (v d) m) : compD G own elt t .nil s e m = .ok (s.items.map v) m := by
  rw [comp_pure h0 (fun _ => true) v fun d hd => ?_]
  · rw [List.filter_eq_self.mpr fun _ _ => rfl]
  · obtain ⟨e', h1, h2⟩ := h d hd
    exact ⟨e', h1, evf_nil, fun _ => h2⟩
/-- with effects -/
theorem comp_eff {G : Sg} {own : List Nat} {elt : C} {t : T} {s : Src} {e : Env} {M : Mem → Prop} {P : D → D → Prop} (hm : M m) (h0 : ∀ m, M m → s.stays m = true)
    (h : ∀ d ∈ s.items, ∀ m, M m → ∃ e', t.bind d (wipe e own) = some e' ∧ ∃ v m', evalC G elt e' m = .ok v m' ∧ M m' ∧ P d v) : ∃ vs m', compD G own elt t .nil s e m = .ok vs m' ∧ M m' ∧ Paired P s.items vs := by
  obtain ⟨vs, m', h1, h2, h3⟩ := compGo_eff (stays := s.stays) (f := fun e m => evalC G elt e m) (p := fun e m => evalIfs G .nil e m) (t := t) (e := wipe e own) (M := M) (P := P) h0 (ds := s.items) hm (fun d hd m hm => by
    obtain ⟨e', q1, v, m', q2, q3, q4⟩ := h d hd m hm
    exact ⟨e', q1, evf_nil, v, m', q2, q3, q4⟩)
  refine ⟨vs, m', ?_, h2, h3⟩
  unfold compD
  rw [h1]
  rfl
end Z
namespace Z
open PySem
variable {m : Mem}
theorem cut_any {m : Mem} (l : List D) (lo hi : Option Int) : cutD m (.tup l) lo hi = some (.tup ((l.drop (HT.sIx l.length 0 lo)).take (HT.sIx l.length l.length hi - HT.sIx l.length 0 lo))) := rfl
theorem cut_from {m : Mem} (l : List D) (i : Nat) : cutD m (.tup l) (some (i : Int)) none = some (.tup (l.drop i)) := by
  rw [cut_any, HT.sIx_nat]
  have e : HT.sIx l.length l.length none = l.length := rfl
  rw [e]
  by_cases h : i ≤ l.length
  · rw [Nat.min_eq_left h, List.take_of_length_le (by rw [List.length_drop]; exact Nat.le_refl _)]
  · rw [Nat.min_eq_right (by omega), Nat.sub_self, List.take_zero, List.drop_eq_nil_of_le (by omega)]
theorem cut_to {m : Mem} (l : List D) (i : Nat) : cutD m (.tup l) none (some (i : Int)) = some (.tup (l.take i)) := by
  rw [cut_any, HT.sIx_nat]
  have e : HT.sIx l.length 0 none = 0 := rfl
  rw [e, List.drop_zero, Nat.sub_zero]
  by_cases h : i ≤ l.length
  · rw [Nat.min_eq_left h]
  · rw [Nat.min_eq_right (by omega), List.take_of_length_le (Nat.le_refl _), List.take_of_length_le (by omega)]
theorem cut_last {m : Mem} (l : List D) : cutD m (.tup l) none (some (-1)) = some (.tup l.dropLast) := by
  rw [cut_any]
  have e : HT.sIx l.length 0 none = 0 := rfl
  have e2 : HT.sIx l.length l.length (some (-1)) = l.length - 1 := by
    show (if (-1 : Int) < 0 then ((-1 : Int) + (l.length : Int)).toNat else min (-1 : Int).toNat l.length) = l.length - 1
    rw [if_pos (by decide)]
    omega
  rw [e, e2, List.drop_zero, Nat.sub_zero, List.dropLast_eq_take]
@[simp] theorem bi_all_o {α : Type} (l : List α) (f : α → Bool) : biD .all m [.lst (l.map (D.bl ∘ f))] = some (.bl (l.all f)) := by
  have e : l.map (D.bl ∘ f) = (l.map f).map D.bl := by rw [List.map_map]
  rw [e, bi_all, List.all_map]
  rfl
@[simp] theorem bi_all_f {α : Type} (l : List α) (f : α → Bool) : biD .all m [.lst (l.map fun a => D.bl (f a))] = some (.bl (l.all f)) := bi_all_o l f
@[simp] theorem bi_any_o {α : Type} (l : List α) (f : α → Bool) : biD .any m [.lst (l.map (D.bl ∘ f))] = some (.bl (l.any f)) := by
  have e : l.map (D.bl ∘ f) = (l.map f).map D.bl := by rw [List.map_map]
  rw [e, bi_any, List.any_map]
  rfl
@[simp] theorem bi_any_f {α : Type} (l : List α) (f : α → Bool) : biD .any m [.lst (l.map fun a => D.bl (f a))] = some (.bl (l.any f)) := bi_any_o l f
@[simp] theorem bi_sum_o {α : Type} (l : List α) (f : α → Int) : biD .sum m [.lst (l.map (D.int ∘ f))] = some (.int (l.map f).sum) := by
  have e : l.map (D.int ∘ f) = (l.map f).map D.int := by rw [List.map_map]
  rw [e, bi_sum]
@[simp] theorem bi_sum_f {α : Type} (l : List α) (f : α → Int) : biD .sum m [.lst (l.map fun a => D.int (f a))] = some (.int (l.map f).sum) := bi_sum_o l f
theorem zip_ints (xs ys : List Int) : ((xs.map D.int).zip (ys.map D.int)).map (fun p => D.tup [p.1, p.2]) = (xs.zip ys).map fun p => D.tup [.int p.1, .int p.2] := by
  rw [List.zip_map, List.map_map]
  rfl
/-- over pairs of ints -/
theorem comp_pairs {G : Sg} {own : List Nat} {elt : C} {i j : Nat} {e : Env} (l : List (Int × Int)) (f : Int → Int → D)
    (h : ∀ a b, evalC G elt (((wipe e own).set i (some (.int a))).set j (some (.int b))) m = .ok (f a b) m) : compD G own elt (.tp [i, j]) .nil ⟨l.map fun p => D.tup [.int p.1, .int p.2], none⟩ e m = .ok (l.map fun p => f p.1 p.2) m := by
  rw [comp_map rfl (fun d => match d with | .tup [.int a, .int b] => f a b | _ => .non) fun d hd => ?_, List.map_map]
  · rfl
  · obtain ⟨p, _, rfl⟩ := List.mem_map.mp hd
    exact ⟨_, rfl, h _ _⟩
/-- over ints -/
theorem comp_ints {G : Sg} {own : List Nat} {elt : C} {i : Nat} {e : Env} (l : List Int) (f : Int → D)
    (h : ∀ a ∈ l, evalC G elt ((wipe e own).set i (some (.int a))) m = .ok (f a) m) : compD G own elt (.nm i) .nil ⟨l.map D.int, none⟩ e m = .ok (l.map f) m := by
  rw [comp_map rfl (fun d => match d with | .int a => f a | _ => .non) fun d hd => ?_, List.map_map]
  · rfl
  · obtain ⟨a, ha, rfl⟩ := List.mem_map.mp hd
    exact ⟨_, rfl, h a ha⟩
theorem line_val : (sizeLine : Int) = 16777216 := by rw [sizeLine_eq]; rfl
theorem rng_small {n : Int} (h0 : 0 ≤ n) (h : n ≤ 16000000) : rngS (.int n) m = .ok ⟨(List.range n.toNat).map fun (k : Nat) => D.int (k : Int), none⟩ m :=
  rng_int ⟨by omega, by have := line_val; omega⟩
theorem rng_nat {n : Nat} (h : n ≤ 16000000) : rngS (.int (n : Int)) m = .ok ⟨(List.range n).map fun (k : Nat) => D.int (k : Int), none⟩ m := by
  rw [rng_small (by omega) (by omega)]
  rfl
theorem sub_tup {l : List D} {i : Nat} {d : D} (h : l[i]? = some d) : subD m (.tup l) (.int (i : Int)) = some d := by
  show L2.atI l (i : Int) = some d
  exact L2.atI_nat h
theorem sub_lst {l : List D} {i : Nat} {d : D} (h : l[i]? = some d) : subD m (.lst l) (.int (i : Int)) = some d := by
  show L2.atI l (i : Int) = some d
  exact L2.atI_nat h
theorem sub_tup_int {l : List Int} {i : Nat} (h : i < l.length) : subD m (.tup (l.map D.int)) (.int (i : Int)) = some (.int (l[i]?.getD 0)) :=
  sub_tup (by rw [List.getElem?_map, List.getElem?_eq_getElem h]; rfl)
theorem sub_lst_int {l : List Int} {i : Nat} (h : i < l.length) : subD m (.lst (l.map D.int)) (.int (i : Int)) = some (.int (l[i]?.getD 0)) :=
  sub_lst (by rw [List.getElem?_map, List.getElem?_eq_getElem h]; rfl)
theorem aug_mul {i : Nat} {e : Env} {a b : Int} (h : smallMul a b = true) : augF .Mult i (.int a) e (.int b) m = .nx (e.set i (some (.int (a * b)))) m := by
  unfold augF augD
  simp only [h, if_true]
/-- over a range, with a test -/
theorem comp_nats {G : Sg} {own : List Nat} {elt : C} {ifs : Cs} {i : Nat} {e : Env} (l : List Nat) (c : Nat → Bool) (f : Nat → D)
    (h : ∀ a ∈ l, evalIfs G ifs ((wipe e own).set i (some (.int (a : Int)))) m = .ok (c a) m ∧ (c a = true → evalC G elt ((wipe e own).set i (some (.int (a : Int)))) m = .ok (f a) m)) : compD G own elt (.nm i) ifs ⟨l.map fun (k : Nat) => D.int (k : Int), none⟩ e m = .ok ((l.filter c).map f) m := by
  rw [comp_pure rfl (fun d => match d with | .int a => c a.toNat | _ => false) (fun d => match d with | .int a => f a.toNat | _ => .non) fun d hd => ?_]
  · show Out.ok (((l.map fun (k : Nat) => D.int (k : Int)).filter _).map _) m = _
    rw [List.filter_map, List.map_map]
    rfl
  · obtain ⟨a, ha, rfl⟩ := List.mem_map.mp hd
    exact ⟨_, rfl, (h a ha).1, (h a ha).2⟩
theorem eqD_nil_nats (l : List Nat) : eqD m (.lst (l.map fun (k : Nat) => D.int (k : Int))) (.lst []) = some (decide (l = [])) := by
  have e : (l.map fun (k : Nat) => D.int (k : Int)) = (l.map fun (k : Nat) => (k : Int)).map D.int := by rw [List.map_map]; rfl
  rw [e, show (D.lst []) = .lst (([] : List Int).map D.int) from rfl, eqD_lsts]
  simp
theorem binD_rep {l : List D} {k : Nat} (h : l.length * k ≤ 10000) (hk : k ≤ 10000) : binD .Mult m (.lst l) (.int (k : Int)) = some (.lst (List.replicate k l).flatten) := by
  have h1 : -(2 ^ 63) ≤ (k : Int) := by omega
  have h2 : (k : Int) < 2 ^ 63 := by omega
  have h3 : l.length * k ≤ sizeLine := by rw [sizeLine_eq]; omega
  unfold binD
  simp only [rdL, decide_eq_true h1, decide_eq_true h2, decide_eq_true h3, Bool.and_self, if_true, Int.toNat_natCast]
theorem binD_two {l : List D} (h : l.length ≤ 5000) : binD .Mult m (.lst l) (.int 2) = some (.lst (l ++ l)) := by
  have := binD_rep (m := m) (l := l) (k := 2) (by omega) (by decide)
  simpa [List.replicate] using this
/-- an item of a list, by a figure -/
theorem sub_fig {l : List D} {r : Int} (h0 : 0 ≤ r) (h1 : r < l.length) : ∃ d, subD m (.lst l) (.int r) = some d ∧ d ∈ l := by
  obtain ⟨j, rfl⟩ : ∃ j : Nat, r = (j : Int) := ⟨r.toNat, by omega⟩
  have hl : j < l.length := by omega
  exact ⟨l[j], sub_lst (List.getElem?_eq_getElem hl), List.getElem_mem hl⟩
theorem sub_fig_t {l : List D} {r : Int} (h0 : 0 ≤ r) (h1 : r < l.length) : ∃ d, subD m (.tup l) (.int r) = some d ∧ d ∈ l := by
  obtain ⟨j, rfl⟩ : ∃ j : Nat, r = (j : Int) := ⟨r.toNat, by omega⟩
  have hl : j < l.length := by omega
  exact ⟨l[j], sub_tup (List.getElem?_eq_getElem hl), List.getElem_mem hl⟩
/-- an int's text -/
def txt (i : Int) : Str := toString i
theorem bi_str_int {i : Int} (h : i.natAbs < 2 ^ 250) : biD .str m [.int i] = some (.str (txt i)) := by
  have l2 : i.natAbs.log2 < 1920 := by
    by_cases z : i.natAbs = 0
    · rw [z]; decide
    · exact Nat.lt_of_lt_of_le ((Nat.log2_lt z).mpr h) (by omega)
  show (if i.natAbs.log2 < 1920 then some (D.str (txt i)) else none) = _
  rw [if_pos l2]
theorem strOk_of (s : String) : PyData.strOk (Str.ofString s) = true := by
  unfold PyData.strOk
  rw [Str.ofString_eq_toList]
  simp only [List.all_toArray, List.all_map, List.all_eq_true, Function.comp_apply, decide_eq_true_eq]
  intro c _
  have q : c.val.toNat < 0xd800 ∨ (0xdfff < c.val.toNat ∧ c.val.toNat < 0x110000) := c.valid
  show c.val.toNat < 0x110000
  omega
theorem txt_len (i : Int) : (txt i).length = (toString i).length := ofString_length _
theorem txt_ok (i : Int) : PyData.strOk (txt i) = true := strOk_of _
theorem sm_text {i : Int} (h : i.natAbs < 2 ^ 250) : Sm 1921 0 (.str (txt i)) := by
  have l2 : i.natAbs.log2 < 1920 := by
    by_cases z : i.natAbs = 0
    · rw [z]; decide
    · exact Nat.lt_of_lt_of_le ((Nat.log2_lt z).mpr h) (by omega)
  refine (sm_str (txt_ok i)).mono ?_ (Nat.le_refl _)
  rw [txt_len]
  exact int_text_length_le (by decide) l2
theorem src_loc {n : Nat} {l : List D} (h : m[n]? = some (.lst l)) : srcOf m (.loc n) = some ⟨l, some n⟩ := by simp [srcOf, h]
@[simp] theorem placed_1 {α : Type} (a z : α) : Z.placed 1 [] [0] [a] [] z = [a] := rfl
@[simp] theorem placed_2 {α : Type} (a b z : α) : Z.placed 2 [] [0, 1] [a, b] [] z = [a, b] := rfl
@[simp] theorem placed_2r {α : Type} (a b z : α) : Z.placed 2 [] [1, 0] [a, b] [] z = [b, a] := rfl
@[simp] theorem placed_11 {α : Type} (a b z : α) : Z.placed 2 [a] [1] [b] [] z = [a, b] := rfl
theorem rd_loc {n : Nat} {l : List D} (h : m[n]? = some (.lst l)) : rdL m (.loc n) = some l := by simp [rdL, h]
theorem app_loc {n : Nat} {l : List D} {d : D} {e : Env} (h : m[n]? = some (.lst l)) (hl : l.length ≤ 100000) : appF (.loc n) d e m = .nx e (m.set n (.lst (l ++ [d]))) := by
  have hz : l.length < sizeLine := by rw [sizeLine_eq]; omega
  unfold appF appD
  simp only [h, hz, if_true]
theorem add_loc {n : Nat} {l k : List D} (h : m[n]? = some (.lst l)) (hl : l.length + k.length ≤ 100000) : binD .Add m (.loc n) (.lst k) = some (.lst (l ++ k)) := by
  have hz : l.length + k.length ≤ sizeLine := by rw [sizeLine_eq]; omega
  unfold binD
  simp only [rdL, h, hz, if_true]
theorem last_loc {n : Nat} {l : List D} {d : D} (h : m[n]? = some (.lst (l ++ [d]))) : subD m (.loc n) (.int (-1)) = some d := by
  unfold subD rdS
  simp only [h]
  exact L2.atI_last l d
end Z
/-! ZI: the feed of a law: figures drawn from its script (plain Lean). -/
namespace Z
open PySem
/-- the feed's dict -/
def fdk (c a l n : D) : List (Key × D) := [(.inr "cells", c), (.inr "at", a), (.inr "left", l), (.inr "count", n)]
abbrev FdO (cs : List Int) (a l c : Int) : MO := .dk (fdk (.lst (cs.map D.int)) (.int a) (.int l) (.int c))
theorem ne1 : ("cells" : Str) ≠ ("at" : Str) := by decide +kernel
theorem ne2 : ("cells" : Str) ≠ ("left" : Str) := by decide +kernel
theorem ne3 : ("cells" : Str) ≠ ("count" : Str) := by decide +kernel
theorem ne4 : ("at" : Str) ≠ ("left" : Str) := by decide +kernel
theorem ne5 : ("at" : Str) ≠ ("count" : Str) := by decide +kernel
theorem ne6 : ("left" : Str) ≠ ("count" : Str) := by decide +kernel
section
variable {M : Mem} {n : Nat} {C A L N v : D}
theorem get_cells : getK (fdk C A L N) (.inr "cells") = some C := by
  unfold getK fdk
  simp [ne1, ne2, ne3, ne4, ne5, ne6]
theorem get_at : getK (fdk C A L N) (.inr "at") = some A := by
  unfold getK fdk
  simp [ne1, ne2, ne3, ne4, ne5, ne6]
theorem get_left : getK (fdk C A L N) (.inr "left") = some L := by
  unfold getK fdk
  simp [ne1, ne2, ne3, ne4, ne5, ne6]
theorem get_count : getK (fdk C A L N) (.inr "count") = some N := by
  unfold getK fdk
  simp [ne1, ne2, ne3, ne4, ne5, ne6]
theorem set_at : setK (fdk C A L N) (.inr "at") v = fdk C v L N := by
  unfold setK fdk
  simp [ne1, Ne.symm ne4, Ne.symm ne5]
theorem set_left : setK (fdk C A L N) (.inr "left") v = fdk C A v N := by
  unfold setK fdk
  simp [ne2, ne4, Ne.symm ne6]
theorem set_count : setK (fdk C A L N) (.inr "count") v = fdk C A L v := by
  unfold setK fdk
  simp [ne3, ne5, ne6]
theorem rd_key (hn : n < M.length) (kvs : List (Key × D)) (x : Str) : subD (M.set n (.dk kvs)) (.loc n) (.str x) = getK kvs (.inr x) := by
  unfold subD
  simp only [List.getElem?_set_self hn]
theorem wr_key (hn : n < M.length) (kvs : List (Key × D)) (x : Str) (h : kvs.length < 100) : putD (M.set n (.dk kvs)) (.loc n) (.str x) v = some (M.set n (.dk (setK kvs (.inr x) v))) := by
  unfold putD
  have hz : kvs.length < sizeLine := by rw [sizeLine_eq]; omega
  simp only [List.getElem?_set_self hn, hz, if_true, List.set_set]
end
section
variable {M : Mem} {n : Nat} {C A L N v : D} (hn : n < M.length) (e : Env)
include hn
theorem rd_cells : subD (M.set n (.dk (fdk C A L N))) (.loc n) (.str "cells") = some C := by rw [rd_key hn, get_cells]
theorem rd_at : subD (M.set n (.dk (fdk C A L N))) (.loc n) (.str "at") = some A := by rw [rd_key hn, get_at]
theorem rd_left : subD (M.set n (.dk (fdk C A L N))) (.loc n) (.str "left") = some L := by rw [rd_key hn, get_left]
theorem rd_count : subD (M.set n (.dk (fdk C A L N))) (.loc n) (.str "count") = some N := by rw [rd_key hn, get_count]
theorem wr_at : putF (.loc n) (.str "at") v e (M.set n (.dk (fdk C A L N))) = .nx e (M.set n (.dk (fdk C v L N))) := by unfold putF; rw [wr_key hn _ _ (show (fdk C A L N).length < 100 by show 4 < 100; decide), set_at]
theorem wr_left : putF (.loc n) (.str "left") v e (M.set n (.dk (fdk C A L N))) = .nx e (M.set n (.dk (fdk C A v N))) := by unfold putF; rw [wr_key hn _ _ (show (fdk C A L N).length < 100 by show 4 < 100; decide), set_left]
theorem wr_count : putF (.loc n) (.str "count") v e (M.set n (.dk (fdk C A L N))) = .nx e (M.set n (.dk (fdk C A L v))) := by unfold putF; rw [wr_key hn _ _ (show (fdk C A L N).length < 100 by show 4 < 100; decide), set_count]
end
/-- the code that draws a figure -/
def drawB (d0 p k1 k2 k3 k4 k5 : Int) : Ss := (.cons (.put (.var 0) (.con (.str "count")) (.bin .Add (.sub (.var 0) (.con (.str "count"))) (.con (.int 1))))
    (.cons (.ite (.cmp .Gt (.sub (.var 0) (.con (.str "left"))) (.con (.int 0))) (.cons (.set 2 (.bin .Mod (.sub (.var 0) (.con (.str "left"))) (.var 1)))
    (.cons (.put (.var 0) (.con (.str "left")) (.bin .FloorDiv (.sub (.var 0) (.con (.str "left"))) (.var 1)))
    (.cons (.ret (.var 2))
    .nil))) .nil)
    (.cons (.set 3 (.sub (.var 0) (.con (.str "at"))))
    (.cons (.put (.var 0) (.con (.str "at")) (.bin .Add (.var 3) (.con (.int 1))))
    (.cons (.set 4 (.ite (.cmp .NotEq (.sub (.var 0) (.con (.str "cells"))) (.lst .nil)) (.sub (.sub (.var 0) (.con (.str "cells"))) (.bin .Mod (.var 3) (.bi .len (.cons (.sub (.var 0) (.con (.str "cells"))) .nil)))) (.con (.int d0))))
    (.cons (.ite (.and (.cmp .GtE (.var 4) (.bin .Pow (.con (.int 10)) (.con (.int 18)))) (.cmp .Lt (.var 3) (.bi .len (.cons (.sub (.var 0) (.con (.str "cells"))) .nil)))) (.cons (.put (.var 0) (.con (.str "left")) (.bin .FloorDiv (.var 4) (.var 1)))
    (.cons (.ret (.bin .Mod (.var 4) (.var 1)))
    .nil)) .nil)
    (.cons (.set 5 (.bin .Mod (.bin .Add (.bin .Add (.bin .Mod (.var 4) (.con (.int p))) (.bin .Mult (.con (.int k1)) (.sub (.var 0) (.con (.str "count"))))) (.con (.int k2))) (.con (.int 2147483579))))
    (.cons (.set 5 (.bin .Mod (.bin .Add (.bin .Add (.bin .Mult (.var 5) (.var 5)) (.bin .Mult (.con (.int k3)) (.sub (.var 0) (.con (.str "count"))))) (.con (.int k4))) (.con (.int 2147483549))))
    (.cons (.ret (.bin .Mod (.bin .FloorDiv (.bin .Mod (.bin .Add (.bin .Mult (.var 5) (.var 5)) (.bin .Mult (.con (.int k5)) (.var 5))) (.con (.int 2147483543))) (.con (.int 16))) (.var 1)))
    .nil)))))))))
theorem small_left {i j : Int} (h : -(2 ^ 64) < i) (h2 : i < 2 ^ 64) : smallMul i j = true := by
  unfold smallMul
  simp only [decide_eq_true h, decide_eq_true h2, Bool.and_self, Bool.true_or]
theorem pow18 {m : Mem} : binD .Pow m (.int 10) (.int 18) = some (.int (10 ^ 18)) := rfl
theorem eqD_cells {m : Mem} (cs : List Int) : eqD m (.lst (cs.map D.int)) (.lst []) = some (decide (cs = [])) := eqD_lsts cs []
def mixD (p k1 k2 k3 k4 k5 cell cnt : Int) : Int :=
  ((((cell % p + k1 * cnt + k2) % 2147483579 * ((cell % p + k1 * cnt + k2) % 2147483579) + k3 * cnt + k4) % 2147483549 * (((cell % p + k1 * cnt + k2) % 2147483579 * ((cell % p + k1 * cnt + k2) % 2147483579) + k3 * cnt + k4) % 2147483549) +
    k5 * (((cell % p + k1 * cnt + k2) % 2147483579 * ((cell % p + k1 * cnt + k2) % 2147483579) + k3 * cnt + k4) % 2147483549)) % 2147483543) / 16
theorem draw_set {G : Sg} {d0 p k1 k2 k3 k4 k5 : Int} (hp : 0 < p) (h1 : -(2 ^ 64) < k1 ∧ k1 < 2 ^ 64) (h3 : -(2 ^ 64) < k3 ∧ k3 < 2 ^ 64) (h5 : -(2 ^ 64) < k5 ∧ k5 < 2 ^ 64) {M : Mem} {n : Nat} (hn : n < M.length) (cs : List Int) (a l c : Int) (ha : 0 ≤ a) {many : Int} (h0 : 0 < many) (hm : many < 1073741824) :
    ∃ r a' l', bodyD G 6 (drawB d0 p k1 k2 k3 k4 k5) [.loc n, .int many] (M.set n (FdO cs a l c)) = .ok (.int r) (M.set n (FdO cs a' l' (c + 1))) ∧ 0 ≤ r ∧ r < many ∧ 0 ≤ a' := by
  have m0 : ∀ x : Int, 0 ≤ x % many ∧ x % many < many := fun x => ⟨Int.emod_nonneg _ (by omega), Int.emod_lt_of_pos _ h0⟩
  have ms : ∀ a b c : Int, 0 < c → -(2 ^ 64) < a % c → a % c < 2 ^ 64 → True := fun _ _ _ _ _ _ => trivial
  have k1m : ∀ (m : Mem) (x : Int), binD .Mult m (.int k1) (.int x) = some (.int (k1 * x)) := fun m x => binD_mul (small_left h1.1 h1.2)
  have k3m : ∀ (m : Mem) (x : Int), binD .Mult m (.int k3) (.int x) = some (.int (k3 * x)) := fun m x => binD_mul (small_left h3.1 h3.2)
  have k5m : ∀ (m : Mem) (x : Int), binD .Mult m (.int k5) (.int x) = some (.int (k5 * x)) := fun m x => binD_mul (small_left h5.1 h5.2)
  have sq : ∀ (m : Mem) (x y p : Int), 0 < p → p < 2147483648 → binD .Mult m (.int (x % p)) (.int y) = some (.int (x % p * y)) := fun m x y p a b => by
    have q1 := Int.emod_nonneg x (show p ≠ 0 by omega)
    have q2 := Int.emod_lt_of_pos x a
    exact binD_mul (small_left (by omega) (by omega))
  have mp : ∀ (m : Mem) (x : Int), binD .Mod m (.int x) (.int p) = some (.int (x % p)) := fun m x => binD_mod hp
  have mm : ∀ (m : Mem) (x : Int), binD .Mod m (.int x) (.int many) = some (.int (x % many)) := fun m x => binD_mod h0
  have dm : ∀ (m : Mem) (x : Int), binD .FloorDiv m (.int x) (.int many) = some (.int (x / many)) := fun m x => binD_div h0 hm
  have q1 : ∀ (m : Mem) (x : Int), binD .Mod m (.int x) (.int 2147483579) = some (.int (x % 2147483579)) := fun m x => binD_mod (by decide)
  have q2 : ∀ (m : Mem) (x : Int), binD .Mod m (.int x) (.int 2147483549) = some (.int (x % 2147483549)) := fun m x => binD_mod (by decide)
  have q3 : ∀ (m : Mem) (x : Int), binD .Mod m (.int x) (.int 2147483543) = some (.int (x % 2147483543)) := fun m x => binD_mod (by decide)
  have q4 : ∀ (m : Mem) (x : Int), binD .FloorDiv m (.int x) (.int 16) = some (.int (x / 16)) := fun m x => binD_div (by decide) (by decide)
  have s1 : ∀ (m : Mem) (x y : Int), binD .Mult m (.int (x % 2147483579)) (.int y) = some (.int (x % 2147483579 * y)) := fun m x y => sq m x y _ (by decide) (by decide)
  have s2 : ∀ (m : Mem) (x y : Int), binD .Mult m (.int (x % 2147483549)) (.int y) = some (.int (x % 2147483549 * y)) := fun m x y => sq m x y _ (by decide) (by decide)
  by_cases hl : 0 < l
  · refine ⟨l % many, a, l / many, ?_, (m0 l).1, (m0 l).2, ha⟩
    simp [bodyD, drawB, rd_count hn, rd_left hn, wr_count hn, wr_left hn, hl, mm, dm]
  · by_cases hc : cs = []
    · have ec : ∀ m : Mem, eqD m (.lst (cs.map D.int)) (.lst []) = some true := fun m => by rw [eqD_cells, decide_eq_true hc]
      have el : (cs.length : Int) = 0 := by rw [hc]; rfl
      have na : ¬ a < 0 := by omega
      refine ⟨mixD p k1 k2 k3 k4 k5 d0 (c + 1) % many, a + 1, l, ?_, (m0 _).1, (m0 _).2, by omega⟩
      by_cases hb : (1000000000000000000 : Int) ≤ d0
      · simp [bodyD, drawB, rd_count hn, rd_left hn, wr_count hn, wr_left hn, rd_at hn, wr_at hn, rd_cells hn, hl, mm, dm, ec, pow18, hb, mp, k1m, k3m, k5m, q1, q2, q3, q4, s1, s2, el, na, mixD]
      · simp [bodyD, drawB, rd_count hn, rd_left hn, wr_count hn, wr_left hn, rd_at hn, wr_at hn, rd_cells hn, hl, mm, dm, ec, pow18, hb, mp, k1m, k3m, k5m, q1, q2, q3, q4, s1, s2, mixD]
    · have ec : ∀ m : Mem, eqD m (.lst (cs.map D.int)) (.lst []) = some false := fun m => by rw [eqD_cells, decide_eq_false hc]
      have hlen : 0 < cs.length := List.length_pos_iff.mpr hc
      have ix : ∀ m : Mem, binD .Mod m (.int a) (.int (cs.length : Int)) = some (.int (a % (cs.length : Int))) := fun m => binD_mod (by omega)
      have ix2 : ∀ m : Mem, subD m (.lst (cs.map D.int)) (.int (a % (cs.length : Int))) = some (.int (cs[(a % (cs.length : Int)).toNat]?.getD 0)) := fun m => by
        have b1 := Int.emod_nonneg a (show (cs.length : Int) ≠ 0 by omega)
        have b2 := Int.emod_lt_of_pos a (show (0 : Int) < cs.length by omega)
        have e : a % (cs.length : Int) = (((a % (cs.length : Int)).toNat : Nat) : Int) := by omega
        rw [e, sub_lst_int (by omega)]
        rfl
      generalize cs[(a % (cs.length : Int)).toNat]?.getD 0 = cell at ix2
      by_cases hb : (1000000000000000000 : Int) ≤ cell
      · by_cases ha2 : a < cs.length
        · refine ⟨cell % many, a + 1, cell / many, ?_, (m0 _).1, (m0 _).2, by omega⟩
          simp [bodyD, drawB, rd_count hn, rd_left hn, wr_count hn, wr_left hn, rd_at hn, wr_at hn, rd_cells hn, hl, mm, dm, ec, ix, ix2, pow18, hb, ha2]
        · refine ⟨mixD p k1 k2 k3 k4 k5 cell (c + 1) % many, a + 1, l, ?_, (m0 _).1, (m0 _).2, by omega⟩
          simp [bodyD, drawB, rd_count hn, rd_left hn, wr_count hn, wr_left hn, rd_at hn, wr_at hn, rd_cells hn, hl, mm, dm, ec, ix, ix2, pow18, hb, ha2, mp, k1m, k3m, k5m, q1, q2, q3, q4, s1, s2, mixD]
      · refine ⟨mixD p k1 k2 k3 k4 k5 cell (c + 1) % many, a + 1, l, ?_, (m0 _).1, (m0 _).2, by omega⟩
        simp [bodyD, drawB, rd_count hn, rd_left hn, wr_count hn, wr_left hn, rd_at hn, wr_at hn, rd_cells hn, hl, mm, dm, ec, ix, ix2, pow18, hb, mp, k1m, k3m, k5m, q1, q2, q3, q4, s1, s2, mixD]
/-- a feed stands at a place -/
def Feed (m : Mem) (n : Nat) : Prop := ∃ (cs : List Int) (a l c : Int), 0 ≤ a ∧ m[n]? = some (FdO cs a l c)
/-- the same but for one place -/
structure Aside (n : Nat) (m m' : Mem) : Prop where
  len : m'.length = m.length
  oth : ∀ j, j ≠ n → m'[j]? = m[j]?
theorem Aside.refl (n : Nat) (m : Mem) : Aside n m m := ⟨rfl, fun _ _ => rfl⟩
theorem Aside.trans {n : Nat} {m m1 m2 : Mem} (a : Aside n m m1) (b : Aside n m1 m2) : Aside n m m2 := ⟨b.len.trans a.len, fun j h => (b.oth j h).trans (a.oth j h)⟩
theorem draw_ok {G : Sg} {d0 p k1 k2 k3 k4 k5 : Int} (hp : 0 < p) (h1 : -(2 ^ 64) < k1 ∧ k1 < 2 ^ 64) (h3 : -(2 ^ 64) < k3 ∧ k3 < 2 ^ 64) (h5 : -(2 ^ 64) < k5 ∧ k5 < 2 ^ 64) {m : Mem} {n : Nat} (F : Feed m n) {many : Int} (h0 : 0 < many) (hm : many < 1073741824) :
    ∃ r m', bodyD G 6 (drawB d0 p k1 k2 k3 k4 k5) [.loc n, .int many] m = .ok (.int r) m' ∧ 0 ≤ r ∧ r < many ∧ Feed m' n ∧ Aside n m m' := by
  obtain ⟨cs, a, l, c, ha, e⟩ := F
  have hn : n < m.length := (List.getElem?_eq_some_iff.mp e).1
  have em : m = m.set n (FdO cs a l c) := by
    obtain ⟨_, e2⟩ := List.getElem?_eq_some_iff.mp e
    rw [← e2, List.set_getElem_self]
  obtain ⟨r, a', l', q, r0, r1, ha'⟩ := draw_set (G := G) hp h1 h3 h5 hn cs a l c ha h0 hm (d0 := d0) (k2 := k2) (k4 := k4)
  rw [← em] at q
  exact ⟨r, _, q, r0, r1, ⟨cs, a', l', c + 1, ha', List.getElem?_set_self hn⟩, List.length_set .., fun j hj => List.getElem?_set_ne (Ne.symm hj)⟩
/-- the code that lays a feed -/
def feedB (many : Int) : Ss := (.cons (.ret (.dict ["cells", "at", "left", "count"] (.cons (.bi .list (.cons (.cut (.var 0) .none (.some (.con (.int many)))) .nil)) (.cons (.con (.int 0)) (.cons (.con (.int 0)) (.cons (.con (.int 0)) .nil))))))
    .nil)
theorem cut_scr {m : Mem} (ns : List Int) (i : Nat) : cutD m (.scr ns) none (some (i : Int)) = some (.lst ((ns.take i).map D.int)) := by
  show some (D.lst (((ns.map D.int).drop (HT.sIx (ns.map D.int).length 0 none)).take (HT.sIx (ns.map D.int).length (ns.map D.int).length (some (i : Int)) - HT.sIx (ns.map D.int).length 0 none))) = _
  rw [HT.sIx_nat]
  have e : HT.sIx (ns.map D.int).length 0 none = 0 := rfl
  rw [e, List.drop_zero, Nat.sub_zero, List.length_map, List.map_take]
  by_cases h : i ≤ ns.length
  · rw [Nat.min_eq_left h]
  · rw [Nat.min_eq_right (by omega), List.take_of_length_le (by rw [List.length_map]; exact Nat.le_refl _), List.take_of_length_le (by rw [List.length_map]; omega)]
theorem feed_ok {G : Sg} {m : Mem} (ns : List Int) (i : Nat) : ∃ m', bodyD G 1 (feedB (i : Int)) [.scr ns] m = .ok (.loc m.length) m' ∧ m' = m ++ [FdO (ns.take i) 0 0 0] := by
  refine ⟨_, ?_, rfl⟩
  simp [bodyD, feedB, cut_scr, fdk]
theorem feed_new {m : Mem} {cs : List Int} : Feed (m ++ [FdO cs 0 0 0]) m.length := ⟨cs, 0, 0, 0, Int.le_refl _, by simp⟩
/-! ### the statements of a body by number; a look at small data -/
def nth : Nat → Ss → S
  | 0, .cons s _ => s
  | n + 1, .cons _ l => nth n l
  | _, .nil => .pass
def smB (w p : Nat) (d : D) : Bool := match toPy d with
  | some x => x.canLay0 && x.showable && x.leavesShort 1921 && decide (x.depth ≤ p) && decide (x.weight ≤ w)
  | none => false
theorem sm_of {w p : Nat} {d : D} (h : smB w p d = true) : Sm w p d := by
  unfold smB at h
  split at h
  · rename_i x e
    simp only [Bool.and_eq_true, decide_eq_true_eq] at h
    exact ⟨x, e, h.1.1.1.1, h.1.1.1.2, h.1.1.2, h.1.2, h.2⟩
  · cases h
theorem sm_list {w p : Nat} {l : List D} (h : l.all (smB w p) = true) : ∀ x ∈ l, Sm w p x := fun x hx => sm_of (List.all_eq_true.mp h x hx)
end Z
namespace K32
open PySem PySem.Spec PyProof.Rows L2 Z
def top (i : Nat) : Stmt := PySem.Challenge.pw_handsmade_k32_bunches_told.main.body.getD i (.Pass ⟨0, 0, 0, 0⟩)
def b_is_number : Ss := (.cons (.ret (.and (.bi .isinst (.cons (.var 0) (.cons (.con (.ty "int")) .nil))) (.and (.not (.bi .isinst (.cons (.var 0) (.cons (.con (.ty "bool")) .nil)))) (.cmp .GtE (.var 0) (.con (.int 0))))))
    .nil)
def f_is_number : Fd := ⟨"is_number", top 1, ["thing"], ["thing"], [], b_is_number⟩ -- 0
def b_is_bunch : Ss := (.cons (.ite (.or (.not (.bi .isinst (.cons (.var 0) (.cons (.con (.ty "tuple")) .nil)))) (.not (.bi .all (.cons (.comp [1, 2] (.call 0 (.cons (.var 2) .nil)) (.nm 2) (.var 0) .nil) .nil)))) (.cons (.ret (.con (.bl false)))
    .nil) .nil)
    (.cons (.ret (.bi .all (.cons (.comp [1, 2, 3] (.cmp .GtE (.var 2) (.var 3)) (.tp [2, 3]) (.zip (.var 0) (.cut (.var 0) (.some (.con (.int 1))) .none)) .nil) .nil)))
    .nil))
def f_is_bunch : Fd := ⟨"is_bunch", top 3, ["thing", ".0", "light", "dimmer"], ["thing"], [], b_is_bunch⟩ -- 1
def b_dark_ones : Ss := (.cons (.set 1 (.con (.int 1)))
    (.cons (.for_ (.nm 2) (.rng (.var 0)) (.cons (.aug .Mult 1 (.con (.int 2)))
    .nil))
    (.cons (.ret (.var 1))
    .nil)))
def f_dark_ones : Fd := ⟨"dark_ones", top 4, ["light", "glow", "lesser"], ["light"], [], b_dark_ones⟩ -- 2
def b_glow_of : Ss := (.cons (.ret (.bi .sum (.cons (.comp [1, 2] (.call 2 (.cons (.var 2) .nil)) (.nm 2) (.var 0) .nil) .nil)))
    .nil)
def f_glow_of : Fd := ⟨"glow_of", top 5, ["lights", ".0", "light"], ["lights"], [], b_glow_of⟩ -- 3
def b_bunch_covers : Ss := (.cons (.ret (.and (.cmp .GtE (.bi .len (.cons (.var 0) .nil)) (.bi .len (.cons (.var 1) .nil))) (.bi .all (.cons (.comp [2, 3, 4] (.cmp .GtE (.var 3) (.var 4)) (.tp [3, 4]) (.zip (.var 0) (.var 1)) .nil) .nil))))
    .nil)
def f_bunch_covers : Fd := ⟨"bunch_covers", top 6, ["one", "other", ".0", "mine", "its"], ["one", "other"], [], b_bunch_covers⟩ -- 4
def b__law_feed : Ss := (.cons (.ret (.dict ["cells", "at", "left", "count"] (.cons (.bi .list (.cons (.cut (.var 0) .none (.some (.con (.int 63)))) .nil)) (.cons (.con (.int 0)) (.cons (.con (.int 0)) (.cons (.con (.int 0)) .nil))))))
    .nil)
def f__law_feed : Fd := ⟨"_law_feed", top 8, ["_law_script"], ["_law_script"], [], b__law_feed⟩ -- 5
def b__law_draw : Ss := (.cons (.put (.var 0) (.con (.str "count")) (.bin .Add (.sub (.var 0) (.con (.str "count"))) (.con (.int 1))))
    (.cons (.ite (.cmp .Gt (.sub (.var 0) (.con (.str "left"))) (.con (.int 0))) (.cons (.set 2 (.bin .Mod (.sub (.var 0) (.con (.str "left"))) (.var 1)))
    (.cons (.put (.var 0) (.con (.str "left")) (.bin .FloorDiv (.sub (.var 0) (.con (.str "left"))) (.var 1)))
    (.cons (.ret (.var 2))
    .nil))) .nil)
    (.cons (.set 3 (.sub (.var 0) (.con (.str "at"))))
    (.cons (.put (.var 0) (.con (.str "at")) (.bin .Add (.var 3) (.con (.int 1))))
    (.cons (.set 4 (.ite (.cmp .NotEq (.sub (.var 0) (.con (.str "cells"))) (.lst .nil)) (.sub (.sub (.var 0) (.con (.str "cells"))) (.bin .Mod (.var 3) (.bi .len (.cons (.sub (.var 0) (.con (.str "cells"))) .nil)))) (.con (.int 21))))
    (.cons (.ite (.and (.cmp .GtE (.var 4) (.bin .Pow (.con (.int 10)) (.con (.int 18)))) (.cmp .Lt (.var 3) (.bi .len (.cons (.sub (.var 0) (.con (.str "cells"))) .nil)))) (.cons (.put (.var 0) (.con (.str "left")) (.bin .FloorDiv (.var 4) (.var 1)))
    (.cons (.ret (.bin .Mod (.var 4) (.var 1)))
    .nil)) .nil)
    (.cons (.set 5 (.bin .Mod (.bin .Add (.bin .Add (.bin .Mod (.var 4) (.con (.int 1000003621))) (.bin .Mult (.con (.int 63029)) (.sub (.var 0) (.con (.str "count"))))) (.con (.int 63))) (.con (.int 2147483579))))
    (.cons (.set 5 (.bin .Mod (.bin .Add (.bin .Add (.bin .Mult (.var 5) (.var 5)) (.bin .Mult (.con (.int 7068787)) (.sub (.var 0) (.con (.str "count"))))) (.con (.int 33))) (.con (.int 2147483549))))
    (.cons (.ret (.bin .Mod (.bin .FloorDiv (.bin .Mod (.bin .Add (.bin .Mult (.var 5) (.var 5)) (.bin .Mult (.con (.int 41)) (.var 5))) (.con (.int 2147483543))) (.con (.int 16))) (.var 1)))
    .nil)))))))))
def f__law_draw : Fd := ⟨"_law_draw", top 9, ["_law_feed_here", "_law_many", "_law_figure", "_law_at", "_law_cell", "_law_mixed"], ["_law_feed_here", "_law_many"], [], b__law_draw⟩ -- 6
def b__law_falling : Ss := (.cons (.ret (.bi .tuple (.cons (.rev (.bi .sorted (.cons (.var 0) .nil))) .nil)))
    .nil)
def f__law_falling : Fd := ⟨"_law_falling", top 10, ["_law_lamps"], ["_law_lamps"], [], b__law_falling⟩ -- 7
def b__law_covers : Ss := (.cons (.ret (.and (.cmp .GtE (.bi .len (.cons (.var 0) .nil)) (.bi .len (.cons (.var 1) .nil))) (.cmp .Eq (.comp [2, 3] (.var 3) (.nm 3) (.rng (.bi .len (.cons (.var 1) .nil))) (.cons (.cmp .Lt (.sub (.var 0) (.var 3)) (.sub (.var 1) (.var 3))) .nil)) (.lst .nil))))
    .nil)
def f__law_covers : Fd := ⟨"_law_covers", top 11, ["_law_up", "_law_low", ".0", "_law_k"], ["_law_up", "_law_low"], [], b__law_covers⟩ -- 8
def b__law_power : Ss := (.cons (.ret (.sub (.lst (.cons (.con (.int 1)) (.cons (.con (.int 2)) (.cons (.con (.int 4)) (.cons (.con (.int 8)) .nil))))) (.var 0)))
    .nil)
def f__law_power : Fd := ⟨"_law_power", top 12, ["_law_light"], ["_law_light"], [], b__law_power⟩ -- 9
def b__law_lights : Ss := (.cons (.ret (.call 7 (.cons (.comp [3, 4] (.call 6 (.cons (.var 0) (.cons (.bin .Add (.var 1) (.con (.int 1))) .nil))) (.nm 4) (.rng (.call 6 (.cons (.var 0) (.cons (.bin .Add (.var 2) (.con (.int 1))) .nil)))) .nil) .nil)))
    .nil)
def f__law_lights : Fd := ⟨"_law_lights", top 13, ["_law_feed_here", "_law_bright", "_law_most", ".0", "_law_k"], ["_law_feed_here", "_law_bright", "_law_most"], [], b__law_lights⟩ -- 10
def b__law_odd : Ss := (.cons (.set 3 (.bin .Add (.lst (.cons (.con .non) (.cons (.con (.bl true)) (.cons (.con (.bl false)) (.cons (.con (.str "")) (.cons (.con (.str "a")) (.cons (.tup .nil) (.cons (.lst .nil) (.cons (.lst (.cons (.var 1) .nil)) (.cons (.tup (.cons (.var 1) .nil)) (.cons (.con (.int 0)) (.cons (.con (.int 1)) (.cons (.neg (.con (.int 1))) (.cons (.bin .Pow (.con (.int 10)) (.con (.int 59))) .nil)))))))))))))) (.var 2)))
    (.cons (.ite (.bi .isinst (.cons (.var 1) (.cons (.con (.ty "tuple")) .nil))) (.cons (.set 3 (.bin .Add (.var 3) (.bin .Mult (.lst (.cons (.bi .list (.cons (.var 1) .nil)) (.cons (.cut (.var 1) (.some (.con (.int 1))) .none) (.cons (.cut (.var 1) .none (.some (.neg (.con (.int 1))))) (.cons (.rev (.var 1)) (.cons (.bin .Add (.var 1) (.cut (.var 1) .none (.some (.con (.int 1))))) .nil)))))) (.con (.int 2)))))
    .nil) .nil)
    (.cons (.ite (.bi .isinst (.cons (.var 1) (.cons (.con (.ty "int")) .nil))) (.cons (.set 3 (.bin .Add (.var 3) (.bin .Mult (.lst (.cons (.cmp .Eq (.var 1) (.con (.int 1))) (.cons (.cmp .NotEq (.var 1) (.con (.int 0))) (.cons (.bin .Add (.var 1) (.con (.int 1))) (.cons (.bin .Sub (.var 1) (.con (.int 1))) (.cons (.bin .Sub (.con (.int 0)) (.var 1)) (.cons (.bin .Mult (.con (.int 2)) (.var 1)) (.cons (.bi .str (.cons (.var 1) .nil)) .nil)))))))) (.con (.int 2)))))
    .nil) .nil)
    (.cons (.ite (.bi .isinst (.cons (.var 1) (.cons (.con (.ty "str")) .nil))) (.cons (.set 3 (.bin .Add (.var 3) (.lst (.cons (.bin .Add (.var 1) (.con (.str "a"))) (.cons (.cut (.var 1) (.some (.con (.int 1))) .none) (.cons (.con (.str "zz")) (.cons (.con (.str "A")) (.cons (.con (.int 3)) .nil))))))))
    .nil) .nil)
    (.cons (.ret (.sub (.var 3) (.call 6 (.cons (.var 0) (.cons (.bi .len (.cons (.var 3) .nil)) .nil)))))
    .nil)))))
def f__law_odd : Fd := ⟨"_law_odd", top 14, ["_law_feed_here", "_law_stuff", "_law_some", "_law_menu"], ["_law_feed_here", "_law_stuff", "_law_some"], [], b__law_odd⟩ -- 11
def b__law_bent : Ss := (.cons (.ite (.and (.bi .isinst (.cons (.var 1) (.cons (.con (.ty "tuple")) .nil))) (.and (.cmp .Gt (.bi .len (.cons (.var 1) .nil)) (.con (.int 0))) (.cmp .Gt (.call 6 (.cons (.var 0) (.cons (.con (.int 7)) .nil))) (.con (.int 0))))) (.cons (.set 3 (.call 6 (.cons (.var 0) (.cons (.bi .len (.cons (.var 1) .nil)) .nil))))
    (.cons (.ret (.bin .Add (.bin .Add (.cut (.var 1) .none (.some (.var 3))) (.tup (.cons (.call 12 (.cons (.var 0) (.cons (.sub (.var 1) (.var 3)) (.cons (.var 2) .nil)))) .nil))) (.cut (.var 1) (.some (.bin .Add (.var 3) (.con (.int 1)))) .none)))
    .nil)) .nil)
    (.cons (.ret (.call 11 (.cons (.var 0) (.cons (.var 1) (.cons (.var 2) .nil)))))
    .nil))
def f__law_bent : Fd := ⟨"_law_bent", top 15, ["_law_feed_here", "_law_stuff", "_law_some", "_law_at"], ["_law_feed_here", "_law_stuff", "_law_some"], [], b__law_bent⟩ -- 12
def b_law : Ss := (.cons (.set 1 (.call 5 (.cons (.var 0) .nil)))
    (.cons (.set 2 (.new (.lst (.cons (.tup .nil) (.cons (.tup (.cons (.con (.int 0)) .nil)) (.cons (.tup (.cons (.con (.int 3)) (.cons (.con (.int 3)) (.cons (.con (.int 1)) (.cons (.con (.int 0)) .nil))))) (.cons (.tup (.cons (.con (.int 0)) (.cons (.con (.int 0)) .nil))) (.cons (.tup (.cons (.con (.int 1)) (.cons (.con (.int 2)) .nil))) (.cons (.tup (.cons (.con (.int 2)) (.cons (.con (.int 2)) (.cons (.con (.int 2)) .nil)))) (.cons (.tup (.cons (.con (.int 40)) (.cons (.con (.int 1)) .nil))) (.cons (.tup (.cons (.con (.int 60)) (.cons (.con (.int 0)) .nil))) (.cons (.lst (.cons (.con (.int 1)) .nil)) (.cons (.lst .nil) (.cons (.con .non) (.cons (.con (.bl true)) (.cons (.tup (.cons (.con (.bl true)) .nil)) .nil))))))))))))))))
    (.cons (.app 2 (.tup (.cons (.con (.int 2)) (.cons (.con (.bl true)) .nil))))
    (.cons (.set 2 (.new (.bin .Add (.var 2) (.lst (.cons (.tup (.cons (.con (.int 1)) (.cons (.neg (.con (.int 1))) .nil))) (.cons (.tup (.cons (.neg (.con (.int 1))) .nil)) (.cons (.tup (.cons (.con (.int 1)) (.cons (.con .non) .nil))) (.cons (.tup (.cons (.con (.int 2)) (.cons (.con (.str "1")) .nil))) (.cons (.tup (.cons (.tup (.cons (.con (.int 1)) .nil)) .nil)) (.cons (.con (.str "10")) (.cons (.con (.str "")) (.cons (.con (.int 0)) (.cons (.tup (.cons (.bin .Pow (.con (.int 10)) (.con (.int 59))) .nil)) (.cons (.tup (.cons (.con (.int 2)) (.cons (.con (.int 1)) (.cons (.lst (.cons (.con (.int 0)) .nil)) .nil)))) (.cons (.tup (.cons (.con (.bl false)) .nil)) .nil)))))))))))))))
    (.cons (.set 3 (.new (.lst .nil)))
    (.cons (.for_ (.nm 4) (.rng (.con (.int 12))) (.cons (.app 3 (.call 10 (.cons (.var 1) (.cons (.con (.int 3)) (.cons (.con (.int 5)) .nil)))))
    (.cons (.set 2 (.new (.bin .Add (.var 2) (.lst (.cons (.sub (.var 3) (.neg (.con (.int 1)))) (.cons (.rev (.sub (.var 3) (.neg (.con (.int 1))))) (.cons (.call 12 (.cons (.var 1) (.cons (.sub (.var 3) (.neg (.con (.int 1)))) (.cons (.lst (.cons (.con (.int 2)) (.cons (.neg (.con (.int 2))) .nil))) .nil)))) .nil)))))))
    .nil)))
    (.cons (.for_ (.nm 5) (.var 2) (.cons (.par [6, 7] (.cons (.bi .repr (.cons (.var 5) .nil)) (.cons (.bi .isinst (.cons (.var 5) (.cons (.con (.ty "tuple")) .nil))) .nil)))
    (.cons (.for_ (.nm 8) (.ite (.var 7) (.var 5) (.tup .nil)) (.cons (.set 7 (.and (.var 7) (.and (.bi .isinst (.cons (.var 8) (.cons (.con (.ty "int")) .nil))) (.and (.not (.bi .isinst (.cons (.var 8) (.cons (.con (.ty "bool")) .nil)))) (.cmp .GtE (.var 8) (.con (.int 0)))))))
    .nil))
    (.cons (.set 7 (.and (.var 7) (.cmp .Eq (.var 5) (.call 7 (.cons (.var 5) .nil)))))
    (.cons (.ite (.or (.cmp .NotEq (.bi .repr (.cons (.tup (.cons (.call 1 (.cons (.var 5) .nil)) (.cons (.callk 1 1 .nil [0] (.cons (.var 5) .nil) []) .nil))) .nil)) (.bi .repr (.cons (.tup (.cons (.var 7) (.cons (.var 7) .nil))) .nil))) (.cmp .NotEq (.bi .repr (.cons (.var 5) .nil)) (.var 6))) (.cons (.ret (.con (.bl false)))
    .nil) .nil)
    .nil)))))
    (.cons (.for_ (.nm 9) (.var 3) (.cons (.set 7 (.bi .sum (.cons (.comp [11, 8] (.call 9 (.cons (.var 8) .nil)) (.nm 8) (.var 9) .nil) .nil)))
    (.cons (.ite (.or (.cmp .NotEq (.call 3 (.cons (.var 9) .nil)) (.var 7)) (.cmp .NotEq (.callk 3 1 .nil [0] (.cons (.var 9) .nil) []) (.var 7))) (.cons (.ret (.con (.bl false)))
    .nil) .nil)
    (.cons (.for_ (.nm 10) (.var 3) (.cons (.set 7 (.call 8 (.cons (.var 9) (.cons (.var 10) .nil))))
    (.cons (.ite (.cmp .NotEq (.bi .repr (.cons (.tup (.cons (.call 4 (.cons (.var 9) (.cons (.var 10) .nil))) (.cons (.callk 4 2 .nil [1, 0] (.cons (.var 10) (.cons (.var 9) .nil)) []) .nil))) .nil)) (.bi .repr (.cons (.tup (.cons (.var 7) (.cons (.var 7) .nil))) .nil))) (.cons (.ret (.con (.bl false)))
    .nil) .nil)
    .nil)))
    .nil))))
    (.cons (.ret (.cmp .Eq (.call 3 (.cons (.tup (.cons (.con (.int 3)) (.cons (.con (.int 0)) .nil))) .nil)) (.con (.int 9))))
    .nil)))))))))
def f_law : Fd := ⟨"law", top 16, ["_law_script", "_law_feed_here", "_law_some", "_law_bunches", "_law_lap", "_law_stuff", "_law_kept", "_law_due", "_law_light", "_law_up", "_law_low", ".0"], ["_law_script"], [2, 3], b_law⟩ -- 13
def defs : List Fd := [f_is_number, f_is_bunch, f_dark_ones, f_glow_of, f_bunch_covers, f__law_feed, f__law_draw, f__law_falling, f__law_covers, f__law_power, f__law_lights, f__law_odd, f__law_bent, f_law]
def blts : List Str := ["isinstance", "int", "bool", "tuple", "all", "zip", "range", "sum", "len", "list", "sorted", "str", "repr"]
def shps : List Shp := [⟨1, 1, 0, ["thing"], [0], []⟩, ⟨3, 1, 0, ["lights"], [0], []⟩, ⟨4, 2, 0, ["other", "one"], [1, 0], []⟩]
end K32
set_option maxHeartbeats 0
namespace K32
open PySem PySem.Spec PyProof.Rows L2 Z
abbrev KK : Nat := 20
theorem code_all : ∀ f ∈ defs, FnScope f.N f.ps (defScope f.st) ∧ ∃ r, trBody (gmOf defs blts shps f) (defBody f.st) = some r ∧ r.b = f.b := by
  intro f hf
  unfold defs at hf
  rcases List.mem_cons.mp hf with rfl | hf
  · exact ⟨⟨rfl, rfl, rfl, by decide +kernel, rfl, by decide +kernel, by decide +kernel⟩, code_is (by kernel_rfl)⟩
  rcases List.mem_cons.mp hf with rfl | hf
  · exact ⟨⟨rfl, rfl, rfl, by decide +kernel, rfl, by decide +kernel, by decide +kernel⟩, code_is (by kernel_rfl)⟩
  rcases List.mem_cons.mp hf with rfl | hf
  · exact ⟨⟨rfl, rfl, rfl, by decide +kernel, rfl, by decide +kernel, by decide +kernel⟩, code_is (by kernel_rfl)⟩
  rcases List.mem_cons.mp hf with rfl | hf
  · exact ⟨⟨rfl, rfl, rfl, by decide +kernel, rfl, by decide +kernel, by decide +kernel⟩, code_is (by kernel_rfl)⟩
  rcases List.mem_cons.mp hf with rfl | hf
  · exact ⟨⟨rfl, rfl, rfl, by decide +kernel, rfl, by decide +kernel, by decide +kernel⟩, code_is (by kernel_rfl)⟩
  rcases List.mem_cons.mp hf with rfl | hf
  · exact ⟨⟨rfl, rfl, rfl, by decide +kernel, rfl, by decide +kernel, by decide +kernel⟩, code_is (by kernel_rfl)⟩
  rcases List.mem_cons.mp hf with rfl | hf
  · exact ⟨⟨rfl, rfl, rfl, by decide +kernel, rfl, by decide +kernel, by decide +kernel⟩, code_is (by kernel_rfl)⟩
  rcases List.mem_cons.mp hf with rfl | hf
  · exact ⟨⟨rfl, rfl, rfl, by decide +kernel, rfl, by decide +kernel, by decide +kernel⟩, code_is (by kernel_rfl)⟩
  rcases List.mem_cons.mp hf with rfl | hf
  · exact ⟨⟨rfl, rfl, rfl, by decide +kernel, rfl, by decide +kernel, by decide +kernel⟩, code_is (by kernel_rfl)⟩
  rcases List.mem_cons.mp hf with rfl | hf
  · exact ⟨⟨rfl, rfl, rfl, by decide +kernel, rfl, by decide +kernel, by decide +kernel⟩, code_is (by kernel_rfl)⟩
  rcases List.mem_cons.mp hf with rfl | hf
  · exact ⟨⟨rfl, rfl, rfl, by decide +kernel, rfl, by decide +kernel, by decide +kernel⟩, code_is (by kernel_rfl)⟩
  rcases List.mem_cons.mp hf with rfl | hf
  · exact ⟨⟨rfl, rfl, rfl, by decide +kernel, rfl, by decide +kernel, by decide +kernel⟩, code_is (by kernel_rfl)⟩
  rcases List.mem_cons.mp hf with rfl | hf
  · exact ⟨⟨rfl, rfl, rfl, by decide +kernel, rfl, by decide +kernel, by decide +kernel⟩, code_is (by kernel_rfl)⟩
  rcases List.mem_cons.mp hf with rfl | hf
  · exact ⟨⟨rfl, rfl, rfl, by decide +kernel, rfl, by decide +kernel, by decide +kernel⟩, code_is (by kernel_rfl)⟩
  cases hf
section
variable {K : PySem.W.Frag} {mg : Str → Option Value}
theorem at_is_number {a : Addr} {oc : Value} {od an : Option Addr} {osl : Array (Option Value)} {kV doc pm cdv ct : Value} (g : mg "is_number" = some (.ref a)) (l : K.lookup a = some ⟨oc, od, .func (PySem.W.fnOf "is_number" "is_number" (defArgs (top 1)) (defBody (top 1)) (defScope (top 1)) .none kV doc pm an cdv ct), osl⟩) (c : PySem.W.codeIn K cdv "is_number" = true) (k : PySem.W.keepIn K (.ref a) = true) : Stands K mg shps 0 f_is_number a := by
  have F := fun_mk (st := top 1) l c k
  refine ⟨g, k, _, F, F.binds fun _ _ _ _ _ _ us hl => (match us, hl with | [_], _ => rfl), fun s hs h1 h2 => ?_⟩
  unfold shps at hs
  rcases List.mem_cons.mp hs with rfl | hs
  · exact absurd h1 (by decide)
  rcases List.mem_cons.mp hs with rfl | hs
  · exact absurd h1 (by decide)
  rcases List.mem_cons.mp hs with rfl | hs
  · exact absurd h1 (by decide)
  cases hs
theorem at_is_bunch {a : Addr} {oc : Value} {od an : Option Addr} {osl : Array (Option Value)} {kV doc pm cdv ct : Value} (g : mg "is_bunch" = some (.ref a)) (l : K.lookup a = some ⟨oc, od, .func (PySem.W.fnOf "is_bunch" "is_bunch" (defArgs (top 3)) (defBody (top 3)) (defScope (top 3)) .none kV doc pm an cdv ct), osl⟩) (c : PySem.W.codeIn K cdv "is_bunch" = true) (k : PySem.W.keepIn K (.ref a) = true) : Stands K mg shps 1 f_is_bunch a := by
  have F := fun_mk (st := top 3) l c k
  refine ⟨g, k, _, F, F.binds fun _ _ _ _ _ _ us hl => (match us, hl with | [_], _ => rfl), fun s hs h1 h2 => ?_⟩
  unfold shps at hs
  rcases List.mem_cons.mp hs with rfl | hs
  · exact ⟨rfl, fun st us ws h3 h4 => (match us, ws, h3, h4 with | [], [_], _, _ => .of_eq rfl)⟩
  rcases List.mem_cons.mp hs with rfl | hs
  · exact absurd h1 (by decide)
  rcases List.mem_cons.mp hs with rfl | hs
  · exact absurd h1 (by decide)
  cases hs
theorem at_dark_ones {a : Addr} {oc : Value} {od an : Option Addr} {osl : Array (Option Value)} {kV doc pm cdv ct : Value} (g : mg "dark_ones" = some (.ref a)) (l : K.lookup a = some ⟨oc, od, .func (PySem.W.fnOf "dark_ones" "dark_ones" (defArgs (top 4)) (defBody (top 4)) (defScope (top 4)) .none kV doc pm an cdv ct), osl⟩) (c : PySem.W.codeIn K cdv "dark_ones" = true) (k : PySem.W.keepIn K (.ref a) = true) : Stands K mg shps 2 f_dark_ones a := by
  have F := fun_mk (st := top 4) l c k
  refine ⟨g, k, _, F, F.binds fun _ _ _ _ _ _ us hl => (match us, hl with | [_], _ => rfl), fun s hs h1 h2 => ?_⟩
  unfold shps at hs
  rcases List.mem_cons.mp hs with rfl | hs
  · exact absurd h1 (by decide)
  rcases List.mem_cons.mp hs with rfl | hs
  · exact absurd h1 (by decide)
  rcases List.mem_cons.mp hs with rfl | hs
  · exact absurd h1 (by decide)
  cases hs
theorem at_glow_of {a : Addr} {oc : Value} {od an : Option Addr} {osl : Array (Option Value)} {kV doc pm cdv ct : Value} (g : mg "glow_of" = some (.ref a)) (l : K.lookup a = some ⟨oc, od, .func (PySem.W.fnOf "glow_of" "glow_of" (defArgs (top 5)) (defBody (top 5)) (defScope (top 5)) .none kV doc pm an cdv ct), osl⟩) (c : PySem.W.codeIn K cdv "glow_of" = true) (k : PySem.W.keepIn K (.ref a) = true) : Stands K mg shps 3 f_glow_of a := by
  have F := fun_mk (st := top 5) l c k
  refine ⟨g, k, _, F, F.binds fun _ _ _ _ _ _ us hl => (match us, hl with | [_], _ => rfl), fun s hs h1 h2 => ?_⟩
  unfold shps at hs
  rcases List.mem_cons.mp hs with rfl | hs
  · exact absurd h1 (by decide)
  rcases List.mem_cons.mp hs with rfl | hs
  · exact ⟨rfl, fun st us ws h3 h4 => (match us, ws, h3, h4 with | [], [_], _, _ => .of_eq rfl)⟩
  rcases List.mem_cons.mp hs with rfl | hs
  · exact absurd h1 (by decide)
  cases hs
theorem at_bunch_covers {a : Addr} {oc : Value} {od an : Option Addr} {osl : Array (Option Value)} {kV doc pm cdv ct : Value} (g : mg "bunch_covers" = some (.ref a)) (l : K.lookup a = some ⟨oc, od, .func (PySem.W.fnOf "bunch_covers" "bunch_covers" (defArgs (top 6)) (defBody (top 6)) (defScope (top 6)) .none kV doc pm an cdv ct), osl⟩) (c : PySem.W.codeIn K cdv "bunch_covers" = true) (k : PySem.W.keepIn K (.ref a) = true) : Stands K mg shps 4 f_bunch_covers a := by
  have F := fun_mk (st := top 6) l c k
  refine ⟨g, k, _, F, F.binds fun _ _ _ _ _ _ us hl => (match us, hl with | [_, _], _ => rfl), fun s hs h1 h2 => ?_⟩
  unfold shps at hs
  rcases List.mem_cons.mp hs with rfl | hs
  · exact absurd h1 (by decide)
  rcases List.mem_cons.mp hs with rfl | hs
  · exact absurd h1 (by decide)
  rcases List.mem_cons.mp hs with rfl | hs
  · exact ⟨rfl, fun st us ws h3 h4 => (match us, ws, h3, h4 with | [], [_, _], _, _ => .of_eq rfl)⟩
  cases hs
theorem at__law_feed {a : Addr} {oc : Value} {od an : Option Addr} {osl : Array (Option Value)} {kV doc pm cdv ct : Value} (g : mg "_law_feed" = some (.ref a)) (l : K.lookup a = some ⟨oc, od, .func (PySem.W.fnOf "_law_feed" "_law_feed" (defArgs (top 8)) (defBody (top 8)) (defScope (top 8)) .none kV doc pm an cdv ct), osl⟩) (c : PySem.W.codeIn K cdv "_law_feed" = true) (k : PySem.W.keepIn K (.ref a) = true) : Stands K mg shps 5 f__law_feed a := by
  have F := fun_mk (st := top 8) l c k
  refine ⟨g, k, _, F, F.binds fun _ _ _ _ _ _ us hl => (match us, hl with | [_], _ => rfl), fun s hs h1 h2 => ?_⟩
  unfold shps at hs
  rcases List.mem_cons.mp hs with rfl | hs
  · exact absurd h1 (by decide)
  rcases List.mem_cons.mp hs with rfl | hs
  · exact absurd h1 (by decide)
  rcases List.mem_cons.mp hs with rfl | hs
  · exact absurd h1 (by decide)
  cases hs
theorem at__law_draw {a : Addr} {oc : Value} {od an : Option Addr} {osl : Array (Option Value)} {kV doc pm cdv ct : Value} (g : mg "_law_draw" = some (.ref a)) (l : K.lookup a = some ⟨oc, od, .func (PySem.W.fnOf "_law_draw" "_law_draw" (defArgs (top 9)) (defBody (top 9)) (defScope (top 9)) .none kV doc pm an cdv ct), osl⟩) (c : PySem.W.codeIn K cdv "_law_draw" = true) (k : PySem.W.keepIn K (.ref a) = true) : Stands K mg shps 6 f__law_draw a := by
  have F := fun_mk (st := top 9) l c k
  refine ⟨g, k, _, F, F.binds fun _ _ _ _ _ _ us hl => (match us, hl with | [_, _], _ => rfl), fun s hs h1 h2 => ?_⟩
  unfold shps at hs
  rcases List.mem_cons.mp hs with rfl | hs
  · exact absurd h1 (by decide)
  rcases List.mem_cons.mp hs with rfl | hs
  · exact absurd h1 (by decide)
  rcases List.mem_cons.mp hs with rfl | hs
  · exact absurd h1 (by decide)
  cases hs
theorem at__law_falling {a : Addr} {oc : Value} {od an : Option Addr} {osl : Array (Option Value)} {kV doc pm cdv ct : Value} (g : mg "_law_falling" = some (.ref a)) (l : K.lookup a = some ⟨oc, od, .func (PySem.W.fnOf "_law_falling" "_law_falling" (defArgs (top 10)) (defBody (top 10)) (defScope (top 10)) .none kV doc pm an cdv ct), osl⟩) (c : PySem.W.codeIn K cdv "_law_falling" = true) (k : PySem.W.keepIn K (.ref a) = true) : Stands K mg shps 7 f__law_falling a := by
  have F := fun_mk (st := top 10) l c k
  refine ⟨g, k, _, F, F.binds fun _ _ _ _ _ _ us hl => (match us, hl with | [_], _ => rfl), fun s hs h1 h2 => ?_⟩
  unfold shps at hs
  rcases List.mem_cons.mp hs with rfl | hs
  · exact absurd h1 (by decide)
  rcases List.mem_cons.mp hs with rfl | hs
  · exact absurd h1 (by decide)
  rcases List.mem_cons.mp hs with rfl | hs
  · exact absurd h1 (by decide)
  cases hs
theorem at__law_covers {a : Addr} {oc : Value} {od an : Option Addr} {osl : Array (Option Value)} {kV doc pm cdv ct : Value} (g : mg "_law_covers" = some (.ref a)) (l : K.lookup a = some ⟨oc, od, .func (PySem.W.fnOf "_law_covers" "_law_covers" (defArgs (top 11)) (defBody (top 11)) (defScope (top 11)) .none kV doc pm an cdv ct), osl⟩) (c : PySem.W.codeIn K cdv "_law_covers" = true) (k : PySem.W.keepIn K (.ref a) = true) : Stands K mg shps 8 f__law_covers a := by
  have F := fun_mk (st := top 11) l c k
  refine ⟨g, k, _, F, F.binds fun _ _ _ _ _ _ us hl => (match us, hl with | [_, _], _ => rfl), fun s hs h1 h2 => ?_⟩
  unfold shps at hs
  rcases List.mem_cons.mp hs with rfl | hs
  · exact absurd h1 (by decide)
  rcases List.mem_cons.mp hs with rfl | hs
  · exact absurd h1 (by decide)
  rcases List.mem_cons.mp hs with rfl | hs
  · exact absurd h1 (by decide)
  cases hs
theorem at__law_power {a : Addr} {oc : Value} {od an : Option Addr} {osl : Array (Option Value)} {kV doc pm cdv ct : Value} (g : mg "_law_power" = some (.ref a)) (l : K.lookup a = some ⟨oc, od, .func (PySem.W.fnOf "_law_power" "_law_power" (defArgs (top 12)) (defBody (top 12)) (defScope (top 12)) .none kV doc pm an cdv ct), osl⟩) (c : PySem.W.codeIn K cdv "_law_power" = true) (k : PySem.W.keepIn K (.ref a) = true) : Stands K mg shps 9 f__law_power a := by
  have F := fun_mk (st := top 12) l c k
  refine ⟨g, k, _, F, F.binds fun _ _ _ _ _ _ us hl => (match us, hl with | [_], _ => rfl), fun s hs h1 h2 => ?_⟩
  unfold shps at hs
  rcases List.mem_cons.mp hs with rfl | hs
  · exact absurd h1 (by decide)
  rcases List.mem_cons.mp hs with rfl | hs
  · exact absurd h1 (by decide)
  rcases List.mem_cons.mp hs with rfl | hs
  · exact absurd h1 (by decide)
  cases hs
theorem at__law_lights {a : Addr} {oc : Value} {od an : Option Addr} {osl : Array (Option Value)} {kV doc pm cdv ct : Value} (g : mg "_law_lights" = some (.ref a)) (l : K.lookup a = some ⟨oc, od, .func (PySem.W.fnOf "_law_lights" "_law_lights" (defArgs (top 13)) (defBody (top 13)) (defScope (top 13)) .none kV doc pm an cdv ct), osl⟩) (c : PySem.W.codeIn K cdv "_law_lights" = true) (k : PySem.W.keepIn K (.ref a) = true) : Stands K mg shps 10 f__law_lights a := by
  have F := fun_mk (st := top 13) l c k
  refine ⟨g, k, _, F, F.binds fun _ _ _ _ _ _ us hl => (match us, hl with | [_, _, _], _ => rfl), fun s hs h1 h2 => ?_⟩
  unfold shps at hs
  rcases List.mem_cons.mp hs with rfl | hs
  · exact absurd h1 (by decide)
  rcases List.mem_cons.mp hs with rfl | hs
  · exact absurd h1 (by decide)
  rcases List.mem_cons.mp hs with rfl | hs
  · exact absurd h1 (by decide)
  cases hs
theorem at__law_odd {a : Addr} {oc : Value} {od an : Option Addr} {osl : Array (Option Value)} {kV doc pm cdv ct : Value} (g : mg "_law_odd" = some (.ref a)) (l : K.lookup a = some ⟨oc, od, .func (PySem.W.fnOf "_law_odd" "_law_odd" (defArgs (top 14)) (defBody (top 14)) (defScope (top 14)) .none kV doc pm an cdv ct), osl⟩) (c : PySem.W.codeIn K cdv "_law_odd" = true) (k : PySem.W.keepIn K (.ref a) = true) : Stands K mg shps 11 f__law_odd a := by
  have F := fun_mk (st := top 14) l c k
  refine ⟨g, k, _, F, F.binds fun _ _ _ _ _ _ us hl => (match us, hl with | [_, _, _], _ => rfl), fun s hs h1 h2 => ?_⟩
  unfold shps at hs
  rcases List.mem_cons.mp hs with rfl | hs
  · exact absurd h1 (by decide)
  rcases List.mem_cons.mp hs with rfl | hs
  · exact absurd h1 (by decide)
  rcases List.mem_cons.mp hs with rfl | hs
  · exact absurd h1 (by decide)
  cases hs
theorem at__law_bent {a : Addr} {oc : Value} {od an : Option Addr} {osl : Array (Option Value)} {kV doc pm cdv ct : Value} (g : mg "_law_bent" = some (.ref a)) (l : K.lookup a = some ⟨oc, od, .func (PySem.W.fnOf "_law_bent" "_law_bent" (defArgs (top 15)) (defBody (top 15)) (defScope (top 15)) .none kV doc pm an cdv ct), osl⟩) (c : PySem.W.codeIn K cdv "_law_bent" = true) (k : PySem.W.keepIn K (.ref a) = true) : Stands K mg shps 12 f__law_bent a := by
  have F := fun_mk (st := top 15) l c k
  refine ⟨g, k, _, F, F.binds fun _ _ _ _ _ _ us hl => (match us, hl with | [_, _, _], _ => rfl), fun s hs h1 h2 => ?_⟩
  unfold shps at hs
  rcases List.mem_cons.mp hs with rfl | hs
  · exact absurd h1 (by decide)
  rcases List.mem_cons.mp hs with rfl | hs
  · exact absurd h1 (by decide)
  rcases List.mem_cons.mp hs with rfl | hs
  · exact absurd h1 (by decide)
  cases hs
theorem at_law {a : Addr} {oc : Value} {od an : Option Addr} {osl : Array (Option Value)} {kV doc pm cdv ct : Value} (g : mg "law" = some (.ref a)) (l : K.lookup a = some ⟨oc, od, .func (PySem.W.fnOf "law" "law" (defArgs (top 16)) (defBody (top 16)) (defScope (top 16)) .none kV doc pm an cdv ct), osl⟩) (c : PySem.W.codeIn K cdv "law" = true) (k : PySem.W.keepIn K (.ref a) = true) : Stands K mg shps 13 f_law a := by
  have F := fun_mk (st := top 16) l c k
  refine ⟨g, k, _, F, F.binds fun _ _ _ _ _ _ us hl => (match us, hl with | [_], _ => rfl), fun s hs h1 h2 => ?_⟩
  unfold shps at hs
  rcases List.mem_cons.mp hs with rfl | hs
  · exact absurd h1 (by decide)
  rcases List.mem_cons.mp hs with rfl | hs
  · exact absurd h1 (by decide)
  rcases List.mem_cons.mp hs with rfl | hs
  · exact absurd h1 (by decide)
  cases hs
theorem known {h : Heap} (X : K.In h) (G : h.Ns mainGlobals mg)
    {a0 : Addr} {oc0 kV0 dc0 pm0 cd0 ct0 : Value} {od0 an0 : Option Addr} {sl0 : Array (Option Value)} (n0 : PySem.W.nsIn K mainGlobals "is_number" = some (some (.ref a0))) (l0 : K.lookup a0 = some ⟨oc0, od0, .func (PySem.W.fnOf "is_number" "is_number" (defArgs (top 1)) (defBody (top 1)) (defScope (top 1)) .none kV0 dc0 pm0 an0 cd0 ct0), sl0⟩) (c0 : PySem.W.codeIn K cd0 "is_number" = true) (k0 : PySem.W.keepIn K (.ref a0) = true)
    {a1 : Addr} {oc1 kV1 dc1 pm1 cd1 ct1 : Value} {od1 an1 : Option Addr} {sl1 : Array (Option Value)} (n1 : PySem.W.nsIn K mainGlobals "is_bunch" = some (some (.ref a1))) (l1 : K.lookup a1 = some ⟨oc1, od1, .func (PySem.W.fnOf "is_bunch" "is_bunch" (defArgs (top 3)) (defBody (top 3)) (defScope (top 3)) .none kV1 dc1 pm1 an1 cd1 ct1), sl1⟩) (c1 : PySem.W.codeIn K cd1 "is_bunch" = true) (k1 : PySem.W.keepIn K (.ref a1) = true)
    {a2 : Addr} {oc2 kV2 dc2 pm2 cd2 ct2 : Value} {od2 an2 : Option Addr} {sl2 : Array (Option Value)} (n2 : PySem.W.nsIn K mainGlobals "dark_ones" = some (some (.ref a2))) (l2 : K.lookup a2 = some ⟨oc2, od2, .func (PySem.W.fnOf "dark_ones" "dark_ones" (defArgs (top 4)) (defBody (top 4)) (defScope (top 4)) .none kV2 dc2 pm2 an2 cd2 ct2), sl2⟩) (c2 : PySem.W.codeIn K cd2 "dark_ones" = true) (k2 : PySem.W.keepIn K (.ref a2) = true)
    {a3 : Addr} {oc3 kV3 dc3 pm3 cd3 ct3 : Value} {od3 an3 : Option Addr} {sl3 : Array (Option Value)} (n3 : PySem.W.nsIn K mainGlobals "glow_of" = some (some (.ref a3))) (l3 : K.lookup a3 = some ⟨oc3, od3, .func (PySem.W.fnOf "glow_of" "glow_of" (defArgs (top 5)) (defBody (top 5)) (defScope (top 5)) .none kV3 dc3 pm3 an3 cd3 ct3), sl3⟩) (c3 : PySem.W.codeIn K cd3 "glow_of" = true) (k3 : PySem.W.keepIn K (.ref a3) = true)
    {a4 : Addr} {oc4 kV4 dc4 pm4 cd4 ct4 : Value} {od4 an4 : Option Addr} {sl4 : Array (Option Value)} (n4 : PySem.W.nsIn K mainGlobals "bunch_covers" = some (some (.ref a4))) (l4 : K.lookup a4 = some ⟨oc4, od4, .func (PySem.W.fnOf "bunch_covers" "bunch_covers" (defArgs (top 6)) (defBody (top 6)) (defScope (top 6)) .none kV4 dc4 pm4 an4 cd4 ct4), sl4⟩) (c4 : PySem.W.codeIn K cd4 "bunch_covers" = true) (k4 : PySem.W.keepIn K (.ref a4) = true)
    {a5 : Addr} {oc5 kV5 dc5 pm5 cd5 ct5 : Value} {od5 an5 : Option Addr} {sl5 : Array (Option Value)} (n5 : PySem.W.nsIn K mainGlobals "_law_feed" = some (some (.ref a5))) (l5 : K.lookup a5 = some ⟨oc5, od5, .func (PySem.W.fnOf "_law_feed" "_law_feed" (defArgs (top 8)) (defBody (top 8)) (defScope (top 8)) .none kV5 dc5 pm5 an5 cd5 ct5), sl5⟩) (c5 : PySem.W.codeIn K cd5 "_law_feed" = true) (k5 : PySem.W.keepIn K (.ref a5) = true)
    {a6 : Addr} {oc6 kV6 dc6 pm6 cd6 ct6 : Value} {od6 an6 : Option Addr} {sl6 : Array (Option Value)} (n6 : PySem.W.nsIn K mainGlobals "_law_draw" = some (some (.ref a6))) (l6 : K.lookup a6 = some ⟨oc6, od6, .func (PySem.W.fnOf "_law_draw" "_law_draw" (defArgs (top 9)) (defBody (top 9)) (defScope (top 9)) .none kV6 dc6 pm6 an6 cd6 ct6), sl6⟩) (c6 : PySem.W.codeIn K cd6 "_law_draw" = true) (k6 : PySem.W.keepIn K (.ref a6) = true)
    {a7 : Addr} {oc7 kV7 dc7 pm7 cd7 ct7 : Value} {od7 an7 : Option Addr} {sl7 : Array (Option Value)} (n7 : PySem.W.nsIn K mainGlobals "_law_falling" = some (some (.ref a7))) (l7 : K.lookup a7 = some ⟨oc7, od7, .func (PySem.W.fnOf "_law_falling" "_law_falling" (defArgs (top 10)) (defBody (top 10)) (defScope (top 10)) .none kV7 dc7 pm7 an7 cd7 ct7), sl7⟩) (c7 : PySem.W.codeIn K cd7 "_law_falling" = true) (k7 : PySem.W.keepIn K (.ref a7) = true)
    {a8 : Addr} {oc8 kV8 dc8 pm8 cd8 ct8 : Value} {od8 an8 : Option Addr} {sl8 : Array (Option Value)} (n8 : PySem.W.nsIn K mainGlobals "_law_covers" = some (some (.ref a8))) (l8 : K.lookup a8 = some ⟨oc8, od8, .func (PySem.W.fnOf "_law_covers" "_law_covers" (defArgs (top 11)) (defBody (top 11)) (defScope (top 11)) .none kV8 dc8 pm8 an8 cd8 ct8), sl8⟩) (c8 : PySem.W.codeIn K cd8 "_law_covers" = true) (k8 : PySem.W.keepIn K (.ref a8) = true)
    {a9 : Addr} {oc9 kV9 dc9 pm9 cd9 ct9 : Value} {od9 an9 : Option Addr} {sl9 : Array (Option Value)} (n9 : PySem.W.nsIn K mainGlobals "_law_power" = some (some (.ref a9))) (l9 : K.lookup a9 = some ⟨oc9, od9, .func (PySem.W.fnOf "_law_power" "_law_power" (defArgs (top 12)) (defBody (top 12)) (defScope (top 12)) .none kV9 dc9 pm9 an9 cd9 ct9), sl9⟩) (c9 : PySem.W.codeIn K cd9 "_law_power" = true) (k9 : PySem.W.keepIn K (.ref a9) = true)
    {a10 : Addr} {oc10 kV10 dc10 pm10 cd10 ct10 : Value} {od10 an10 : Option Addr} {sl10 : Array (Option Value)} (n10 : PySem.W.nsIn K mainGlobals "_law_lights" = some (some (.ref a10))) (l10 : K.lookup a10 = some ⟨oc10, od10, .func (PySem.W.fnOf "_law_lights" "_law_lights" (defArgs (top 13)) (defBody (top 13)) (defScope (top 13)) .none kV10 dc10 pm10 an10 cd10 ct10), sl10⟩) (c10 : PySem.W.codeIn K cd10 "_law_lights" = true) (k10 : PySem.W.keepIn K (.ref a10) = true)
    {a11 : Addr} {oc11 kV11 dc11 pm11 cd11 ct11 : Value} {od11 an11 : Option Addr} {sl11 : Array (Option Value)} (n11 : PySem.W.nsIn K mainGlobals "_law_odd" = some (some (.ref a11))) (l11 : K.lookup a11 = some ⟨oc11, od11, .func (PySem.W.fnOf "_law_odd" "_law_odd" (defArgs (top 14)) (defBody (top 14)) (defScope (top 14)) .none kV11 dc11 pm11 an11 cd11 ct11), sl11⟩) (c11 : PySem.W.codeIn K cd11 "_law_odd" = true) (k11 : PySem.W.keepIn K (.ref a11) = true)
    {a12 : Addr} {oc12 kV12 dc12 pm12 cd12 ct12 : Value} {od12 an12 : Option Addr} {sl12 : Array (Option Value)} (n12 : PySem.W.nsIn K mainGlobals "_law_bent" = some (some (.ref a12))) (l12 : K.lookup a12 = some ⟨oc12, od12, .func (PySem.W.fnOf "_law_bent" "_law_bent" (defArgs (top 15)) (defBody (top 15)) (defScope (top 15)) .none kV12 dc12 pm12 an12 cd12 ct12), sl12⟩) (c12 : PySem.W.codeIn K cd12 "_law_bent" = true) (k12 : PySem.W.keepIn K (.ref a12) = true)
    {a13 : Addr} {oc13 kV13 dc13 pm13 cd13 ct13 : Value} {od13 an13 : Option Addr} {sl13 : Array (Option Value)} (n13 : PySem.W.nsIn K mainGlobals "law" = some (some (.ref a13))) (l13 : K.lookup a13 = some ⟨oc13, od13, .func (PySem.W.fnOf "law" "law" (defArgs (top 16)) (defBody (top 16)) (defScope (top 16)) .none kV13 dc13 pm13 an13 cd13 ct13), sl13⟩) (c13 : PySem.W.codeIn K cd13 "law" = true) (k13 : PySem.W.keepIn K (.ref a13) = true)
    (z0 : PySem.W.nsIn K mainGlobals "isinstance" = some none)
    (z1 : PySem.W.nsIn K mainGlobals "int" = some none)
    (z2 : PySem.W.nsIn K mainGlobals "bool" = some none)
    (z3 : PySem.W.nsIn K mainGlobals "tuple" = some none)
    (z4 : PySem.W.nsIn K mainGlobals "all" = some none)
    (z5 : PySem.W.nsIn K mainGlobals "zip" = some none)
    (z6 : PySem.W.nsIn K mainGlobals "range" = some none)
    (z7 : PySem.W.nsIn K mainGlobals "sum" = some none)
    (z8 : PySem.W.nsIn K mainGlobals "len" = some none)
    (z9 : PySem.W.nsIn K mainGlobals "list" = some none)
    (z10 : PySem.W.nsIn K mainGlobals "sorted" = some none)
    (z11 : PySem.W.nsIn K mainGlobals "str" = some none)
    (z12 : PySem.W.nsIn K mainGlobals "repr" = some none)
    : Known ⟨K, fun n => [a0, a1, a2, a3, a4, a5, a6, a7, a8, a9, a10, a11, a12, a13][n]?, fun _ => none⟩ mg defs blts shps := by
  refine ⟨fun n f hf => ?_, fun x hx => ?_, code_all⟩
  · unfold defs at hf
    rcases n with _ | n
    · cases hf; exact ⟨a0, rfl, at_is_number (PySem.W.mg_of X G n0) l0 c0 k0⟩
    rcases n with _ | n
    · cases hf; exact ⟨a1, rfl, at_is_bunch (PySem.W.mg_of X G n1) l1 c1 k1⟩
    rcases n with _ | n
    · cases hf; exact ⟨a2, rfl, at_dark_ones (PySem.W.mg_of X G n2) l2 c2 k2⟩
    rcases n with _ | n
    · cases hf; exact ⟨a3, rfl, at_glow_of (PySem.W.mg_of X G n3) l3 c3 k3⟩
    rcases n with _ | n
    · cases hf; exact ⟨a4, rfl, at_bunch_covers (PySem.W.mg_of X G n4) l4 c4 k4⟩
    rcases n with _ | n
    · cases hf; exact ⟨a5, rfl, at__law_feed (PySem.W.mg_of X G n5) l5 c5 k5⟩
    rcases n with _ | n
    · cases hf; exact ⟨a6, rfl, at__law_draw (PySem.W.mg_of X G n6) l6 c6 k6⟩
    rcases n with _ | n
    · cases hf; exact ⟨a7, rfl, at__law_falling (PySem.W.mg_of X G n7) l7 c7 k7⟩
    rcases n with _ | n
    · cases hf; exact ⟨a8, rfl, at__law_covers (PySem.W.mg_of X G n8) l8 c8 k8⟩
    rcases n with _ | n
    · cases hf; exact ⟨a9, rfl, at__law_power (PySem.W.mg_of X G n9) l9 c9 k9⟩
    rcases n with _ | n
    · cases hf; exact ⟨a10, rfl, at__law_lights (PySem.W.mg_of X G n10) l10 c10 k10⟩
    rcases n with _ | n
    · cases hf; exact ⟨a11, rfl, at__law_odd (PySem.W.mg_of X G n11) l11 c11 k11⟩
    rcases n with _ | n
    · cases hf; exact ⟨a12, rfl, at__law_bent (PySem.W.mg_of X G n12) l12 c12 k12⟩
    rcases n with _ | n
    · cases hf; exact ⟨a13, rfl, at_law (PySem.W.mg_of X G n13) l13 c13 k13⟩
    cases hf
  · unfold blts at hx
    rcases List.mem_cons.mp hx with rfl | hx
    · exact PySem.W.mg_none_of X G z0
    rcases List.mem_cons.mp hx with rfl | hx
    · exact PySem.W.mg_none_of X G z1
    rcases List.mem_cons.mp hx with rfl | hx
    · exact PySem.W.mg_none_of X G z2
    rcases List.mem_cons.mp hx with rfl | hx
    · exact PySem.W.mg_none_of X G z3
    rcases List.mem_cons.mp hx with rfl | hx
    · exact PySem.W.mg_none_of X G z4
    rcases List.mem_cons.mp hx with rfl | hx
    · exact PySem.W.mg_none_of X G z5
    rcases List.mem_cons.mp hx with rfl | hx
    · exact PySem.W.mg_none_of X G z6
    rcases List.mem_cons.mp hx with rfl | hx
    · exact PySem.W.mg_none_of X G z7
    rcases List.mem_cons.mp hx with rfl | hx
    · exact PySem.W.mg_none_of X G z8
    rcases List.mem_cons.mp hx with rfl | hx
    · exact PySem.W.mg_none_of X G z9
    rcases List.mem_cons.mp hx with rfl | hx
    · exact PySem.W.mg_none_of X G z10
    rcases List.mem_cons.mp hx with rfl | hx
    · exact PySem.W.mg_none_of X G z11
    rcases List.mem_cons.mp hx with rfl | hx
    · exact PySem.W.mg_none_of X G z12
    cases hx
theorem law_at {P : Program} {w : World} {fa : Addr} {h : Heap} (X : K.In h) (G : h.Ns mainGlobals mg) (hfa : mg "law" = some (.ref fa))
    {a0 : Addr} {oc0 kV0 dc0 pm0 cd0 ct0 : Value} {od0 an0 : Option Addr} {sl0 : Array (Option Value)} (n0 : PySem.W.nsIn K mainGlobals "is_number" = some (some (.ref a0))) (l0 : K.lookup a0 = some ⟨oc0, od0, .func (PySem.W.fnOf "is_number" "is_number" (defArgs (top 1)) (defBody (top 1)) (defScope (top 1)) .none kV0 dc0 pm0 an0 cd0 ct0), sl0⟩) (c0 : PySem.W.codeIn K cd0 "is_number" = true) (k0 : PySem.W.keepIn K (.ref a0) = true)
    {a1 : Addr} {oc1 kV1 dc1 pm1 cd1 ct1 : Value} {od1 an1 : Option Addr} {sl1 : Array (Option Value)} (n1 : PySem.W.nsIn K mainGlobals "is_bunch" = some (some (.ref a1))) (l1 : K.lookup a1 = some ⟨oc1, od1, .func (PySem.W.fnOf "is_bunch" "is_bunch" (defArgs (top 3)) (defBody (top 3)) (defScope (top 3)) .none kV1 dc1 pm1 an1 cd1 ct1), sl1⟩) (c1 : PySem.W.codeIn K cd1 "is_bunch" = true) (k1 : PySem.W.keepIn K (.ref a1) = true)
    {a2 : Addr} {oc2 kV2 dc2 pm2 cd2 ct2 : Value} {od2 an2 : Option Addr} {sl2 : Array (Option Value)} (n2 : PySem.W.nsIn K mainGlobals "dark_ones" = some (some (.ref a2))) (l2 : K.lookup a2 = some ⟨oc2, od2, .func (PySem.W.fnOf "dark_ones" "dark_ones" (defArgs (top 4)) (defBody (top 4)) (defScope (top 4)) .none kV2 dc2 pm2 an2 cd2 ct2), sl2⟩) (c2 : PySem.W.codeIn K cd2 "dark_ones" = true) (k2 : PySem.W.keepIn K (.ref a2) = true)
    {a3 : Addr} {oc3 kV3 dc3 pm3 cd3 ct3 : Value} {od3 an3 : Option Addr} {sl3 : Array (Option Value)} (n3 : PySem.W.nsIn K mainGlobals "glow_of" = some (some (.ref a3))) (l3 : K.lookup a3 = some ⟨oc3, od3, .func (PySem.W.fnOf "glow_of" "glow_of" (defArgs (top 5)) (defBody (top 5)) (defScope (top 5)) .none kV3 dc3 pm3 an3 cd3 ct3), sl3⟩) (c3 : PySem.W.codeIn K cd3 "glow_of" = true) (k3 : PySem.W.keepIn K (.ref a3) = true)
    {a4 : Addr} {oc4 kV4 dc4 pm4 cd4 ct4 : Value} {od4 an4 : Option Addr} {sl4 : Array (Option Value)} (n4 : PySem.W.nsIn K mainGlobals "bunch_covers" = some (some (.ref a4))) (l4 : K.lookup a4 = some ⟨oc4, od4, .func (PySem.W.fnOf "bunch_covers" "bunch_covers" (defArgs (top 6)) (defBody (top 6)) (defScope (top 6)) .none kV4 dc4 pm4 an4 cd4 ct4), sl4⟩) (c4 : PySem.W.codeIn K cd4 "bunch_covers" = true) (k4 : PySem.W.keepIn K (.ref a4) = true)
    {a5 : Addr} {oc5 kV5 dc5 pm5 cd5 ct5 : Value} {od5 an5 : Option Addr} {sl5 : Array (Option Value)} (n5 : PySem.W.nsIn K mainGlobals "_law_feed" = some (some (.ref a5))) (l5 : K.lookup a5 = some ⟨oc5, od5, .func (PySem.W.fnOf "_law_feed" "_law_feed" (defArgs (top 8)) (defBody (top 8)) (defScope (top 8)) .none kV5 dc5 pm5 an5 cd5 ct5), sl5⟩) (c5 : PySem.W.codeIn K cd5 "_law_feed" = true) (k5 : PySem.W.keepIn K (.ref a5) = true)
    {a6 : Addr} {oc6 kV6 dc6 pm6 cd6 ct6 : Value} {od6 an6 : Option Addr} {sl6 : Array (Option Value)} (n6 : PySem.W.nsIn K mainGlobals "_law_draw" = some (some (.ref a6))) (l6 : K.lookup a6 = some ⟨oc6, od6, .func (PySem.W.fnOf "_law_draw" "_law_draw" (defArgs (top 9)) (defBody (top 9)) (defScope (top 9)) .none kV6 dc6 pm6 an6 cd6 ct6), sl6⟩) (c6 : PySem.W.codeIn K cd6 "_law_draw" = true) (k6 : PySem.W.keepIn K (.ref a6) = true)
    {a7 : Addr} {oc7 kV7 dc7 pm7 cd7 ct7 : Value} {od7 an7 : Option Addr} {sl7 : Array (Option Value)} (n7 : PySem.W.nsIn K mainGlobals "_law_falling" = some (some (.ref a7))) (l7 : K.lookup a7 = some ⟨oc7, od7, .func (PySem.W.fnOf "_law_falling" "_law_falling" (defArgs (top 10)) (defBody (top 10)) (defScope (top 10)) .none kV7 dc7 pm7 an7 cd7 ct7), sl7⟩) (c7 : PySem.W.codeIn K cd7 "_law_falling" = true) (k7 : PySem.W.keepIn K (.ref a7) = true)
    {a8 : Addr} {oc8 kV8 dc8 pm8 cd8 ct8 : Value} {od8 an8 : Option Addr} {sl8 : Array (Option Value)} (n8 : PySem.W.nsIn K mainGlobals "_law_covers" = some (some (.ref a8))) (l8 : K.lookup a8 = some ⟨oc8, od8, .func (PySem.W.fnOf "_law_covers" "_law_covers" (defArgs (top 11)) (defBody (top 11)) (defScope (top 11)) .none kV8 dc8 pm8 an8 cd8 ct8), sl8⟩) (c8 : PySem.W.codeIn K cd8 "_law_covers" = true) (k8 : PySem.W.keepIn K (.ref a8) = true)
    {a9 : Addr} {oc9 kV9 dc9 pm9 cd9 ct9 : Value} {od9 an9 : Option Addr} {sl9 : Array (Option Value)} (n9 : PySem.W.nsIn K mainGlobals "_law_power" = some (some (.ref a9))) (l9 : K.lookup a9 = some ⟨oc9, od9, .func (PySem.W.fnOf "_law_power" "_law_power" (defArgs (top 12)) (defBody (top 12)) (defScope (top 12)) .none kV9 dc9 pm9 an9 cd9 ct9), sl9⟩) (c9 : PySem.W.codeIn K cd9 "_law_power" = true) (k9 : PySem.W.keepIn K (.ref a9) = true)
    {a10 : Addr} {oc10 kV10 dc10 pm10 cd10 ct10 : Value} {od10 an10 : Option Addr} {sl10 : Array (Option Value)} (n10 : PySem.W.nsIn K mainGlobals "_law_lights" = some (some (.ref a10))) (l10 : K.lookup a10 = some ⟨oc10, od10, .func (PySem.W.fnOf "_law_lights" "_law_lights" (defArgs (top 13)) (defBody (top 13)) (defScope (top 13)) .none kV10 dc10 pm10 an10 cd10 ct10), sl10⟩) (c10 : PySem.W.codeIn K cd10 "_law_lights" = true) (k10 : PySem.W.keepIn K (.ref a10) = true)
    {a11 : Addr} {oc11 kV11 dc11 pm11 cd11 ct11 : Value} {od11 an11 : Option Addr} {sl11 : Array (Option Value)} (n11 : PySem.W.nsIn K mainGlobals "_law_odd" = some (some (.ref a11))) (l11 : K.lookup a11 = some ⟨oc11, od11, .func (PySem.W.fnOf "_law_odd" "_law_odd" (defArgs (top 14)) (defBody (top 14)) (defScope (top 14)) .none kV11 dc11 pm11 an11 cd11 ct11), sl11⟩) (c11 : PySem.W.codeIn K cd11 "_law_odd" = true) (k11 : PySem.W.keepIn K (.ref a11) = true)
    {a12 : Addr} {oc12 kV12 dc12 pm12 cd12 ct12 : Value} {od12 an12 : Option Addr} {sl12 : Array (Option Value)} (n12 : PySem.W.nsIn K mainGlobals "_law_bent" = some (some (.ref a12))) (l12 : K.lookup a12 = some ⟨oc12, od12, .func (PySem.W.fnOf "_law_bent" "_law_bent" (defArgs (top 15)) (defBody (top 15)) (defScope (top 15)) .none kV12 dc12 pm12 an12 cd12 ct12), sl12⟩) (c12 : PySem.W.codeIn K cd12 "_law_bent" = true) (k12 : PySem.W.keepIn K (.ref a12) = true)
    {a13 : Addr} {oc13 kV13 dc13 pm13 cd13 ct13 : Value} {od13 an13 : Option Addr} {sl13 : Array (Option Value)} (n13 : PySem.W.nsIn K mainGlobals "law" = some (some (.ref a13))) (l13 : K.lookup a13 = some ⟨oc13, od13, .func (PySem.W.fnOf "law" "law" (defArgs (top 16)) (defBody (top 16)) (defScope (top 16)) .none kV13 dc13 pm13 an13 cd13 ct13), sl13⟩) (c13 : PySem.W.codeIn K cd13 "law" = true) (k13 : PySem.W.keepIn K (.ref a13) = true)
    (z0 : PySem.W.nsIn K mainGlobals "isinstance" = some none)
    (z1 : PySem.W.nsIn K mainGlobals "int" = some none)
    (z2 : PySem.W.nsIn K mainGlobals "bool" = some none)
    (z3 : PySem.W.nsIn K mainGlobals "tuple" = some none)
    (z4 : PySem.W.nsIn K mainGlobals "all" = some none)
    (z5 : PySem.W.nsIn K mainGlobals "zip" = some none)
    (z6 : PySem.W.nsIn K mainGlobals "range" = some none)
    (z7 : PySem.W.nsIn K mainGlobals "sum" = some none)
    (z8 : PySem.W.nsIn K mainGlobals "len" = some none)
    (z9 : PySem.W.nsIn K mainGlobals "list" = some none)
    (z10 : PySem.W.nsIn K mainGlobals "sorted" = some none)
    (z11 : PySem.W.nsIn K mainGlobals "str" = some none)
    (z12 : PySem.W.nsIn K mainGlobals "repr" = some none)
    : ∃ (B : Bs) (fd : FuncData), B.K = K ∧ Binds K fd ["_law_script"] [] ∧ ∀ base : Heap, K.In base → base.Ns mainGlobals mg → FnG P w K mg base KK fa fd ["_law_script"] (spOf B 1 (progG defs KK 13)) := by
  have kn := known X G n0 l0 c0 k0 n1 l1 c1 k1 n2 l2 c2 k2 n3 l3 c3 k3 n4 l4 c4 k4 n5 l5 c5 k5 n6 l6 c6 k6 n7 l7 c7 k7 n8 l8 c8 k8 n9 l9 c9 k9 n10 l10 c10 k10 n11 l11 c11 k11 n12 l12 c12 k12 n13 l13 c13 k13 z0 z1 z2 z3 z4 z5 z6 z7 z8 z9 z10 z11 z12
  have e := hfa.symm.trans (PySem.W.mg_of X G n13)
  cases e
  have F := fun_mk (st := top 16) l13 c13 k13
  exact ⟨_, _, rfl, F.binds fun _ _ _ _ _ _ us hl => (match us, hl with | [_], _ => rfl), fun base _ _ => fng_at kn KK 13 f_law _ _ rfl rfl F⟩
end
end K32
namespace K32
open PySem Z
noncomputable def G (k : Nat) : Sg := progG defs k
theorem G_at {k n : Nat} {f : Fd} (h : defs[n]? = some f) (args : List D) (m : Mem) : G (k + 1) n args m = bodyD (G k) f.N.length f.b args m := progG_at h args m
/-- what counts as a number -/
def isNum : D → Bool
  | .int i => decide (0 ≤ i)
  | _ => false
/-- data that a law's list holds -/
def Dat : D → Prop
  | .non => True
  | .bl _ => True
  | .int _ => True
  | .str _ => True
  | .tup _ => True
  | .lst _ => True
  | _ => False
theorem is_number_ok (k : Nat) (m : Mem) {d : D} (h : Dat d) : G (k + 1) 0 [d] m = .ok (.bl (isNum d)) m := by
  rw [G_at (f := f_is_number) rfl]
  cases d <;> first | exact h.elim | simp [bodyD, f_is_number, b_is_number, isNum]

theorem numbers {l : List D} (h : l.all isNum = true) : ∃ ns : List Int, l = ns.map D.int ∧ ∀ n ∈ ns, 0 ≤ n := by
  induction l with
  | nil => exact ⟨[], rfl, by simp⟩
  | cons d l ih =>
    rw [List.all_cons, Bool.and_eq_true] at h
    obtain ⟨ns, rfl, h2⟩ := ih h.2
    cases d <;> simp [isNum] at h
    rename_i i
    refine ⟨i :: ns, rfl, fun n hn => ?_⟩
    rcases List.mem_cons.mp hn with rfl | hn
    · exact h.1
    · exact h2 n hn
/-- each at least the next -/
def falls (ns : List Int) : Bool := (ns.zip (ns.drop 1)).all fun p => decide (p.2 ≤ p.1)
def nums : List D → List Int
  | .int i :: l => i :: nums l
  | _ => []
theorem nums_map : ∀ ns : List Int, nums (ns.map D.int) = ns
  | [] => rfl
  | n :: ns => by rw [List.map_cons, nums, nums_map ns]
def isBunch : D → Bool
  | .tup l => l.all isNum && falls (nums l)
  | _ => false
theorem bls_map {l : List D} {v : D → Bool} : l.map (fun d => D.bl (v d)) = (l.map v).map D.bl := by rw [List.map_map]; rfl
theorem is_bunch_ok (k : Nat) (m : Mem) {d : D} (h : Dat d) (h2 : ∀ l, d = .tup l → ∀ x ∈ l, Dat x) : G (k + 2) 1 [d] m = .ok (.bl (isBunch d)) m := by
  rw [G_at (f := f_is_bunch) rfl]
  cases d <;> first | exact h.elim | skip
  case tup l =>
    have c1 : compD (G (k + 1)) [1, 2] (.call 0 (.cons (.var 2) .nil)) (.nm 2) .nil ⟨l, none⟩ [some (.tup l), none, none, none] m = .ok (l.map fun d => .bl (isNum d)) m :=
      comp_map rfl (fun d => .bl (isNum d)) fun d hd => ⟨_, rfl, by simp [wipe, is_number_ok k m (h2 l rfl d hd)]⟩
    by_cases hn : l.all isNum = true
    · obtain ⟨ns, rfl, h0⟩ := numbers hn
      have c2 := comp_pairs (G := G (k + 1)) (own := [1, 2, 3]) (elt := .cmp .GtE (.var 2) (.var 3)) (i := 2) (j := 3) (e := [some (.tup (ns.map D.int)), none, none, none]) (m := m) (ns.zip (ns.drop 1)) (fun a b => .bl (decide (b ≤ a))) fun a b => by simp [wipe]
      have e1 : cutD m (.tup (ns.map D.int)) (some 1) none = some (.tup ((ns.drop 1).map D.int)) := by rw [show (1 : Int) = ((1 : Nat) : Int) from rfl, cut_from, List.map_drop]
      simp [-List.map_map, -List.drop_one, -List.map_drop, bodyD, f_is_bunch, b_is_bunch, c1, hn, e1, zip_ints, c2, isBunch, nums_map, falls]
    · have hn : l.all isNum = false := by simpa using hn
      simp [bodyD, f_is_bunch, b_is_bunch, c1, hn, isBunch]
  all_goals simp [bodyD, f_is_bunch, b_is_bunch, isBunch]

/-! ### glow -/
theorem dark_ones_ok (k : Nat) (m : Mem) {n : Int} (h0 : 0 ≤ n) (h4 : n < 4) : G (k + 1) 2 [.int n] m = .ok (.int (2 ^ n.toNat)) m := by
  rw [G_at (f := f_dark_ones) rfl]
  have cases : n = 0 ∨ n = 1 ∨ n = 2 ∨ n = 3 := by omega
  have h63 : ∀ j : Int, 0 ≤ j → j < 4 → rngS (.int j) m = .ok ⟨(List.range j.toNat).map fun (k : Nat) => D.int (k : Int), none⟩ m := fun j a b => rng_small a (by omega)
  have au : ∀ (a : Int) (e : Z.Env), a < 2 ^ 60 → -(2 ^ 60) < a → augF .Mult 1 (.int a) e (.int 2) m = .nx (e.set 1 (some (.int (a * 2)))) m := fun a e h1 h2 => by
    unfold augF augD
    have : smallMul a 2 = true := by unfold smallMul; simp
    simp only [this, if_true]
  rcases cases with rfl | rfl | rfl | rfl
  · simp [bodyD, f_dark_ones, b_dark_ones, h63, loopF, forGo]
  · simp [bodyD, f_dark_ones, b_dark_ones, h63, loopF, forGo, List.range_succ, x_aug, au]
  · simp [bodyD, f_dark_ones, b_dark_ones, h63, loopF, forGo, List.range_succ, x_aug, au]
  · simp [bodyD, f_dark_ones, b_dark_ones, h63, loopF, forGo, List.range_succ, x_aug, au]
def glow (ns : List Int) : Int := (ns.map fun n => (2 : Int) ^ n.toNat).sum
theorem glow_of_ok (k : Nat) (m : Mem) {ns : List Int} (h : ∀ n ∈ ns, 0 ≤ n ∧ n < 4) : G (k + 2) 3 [.tup (ns.map D.int)] m = .ok (.int (glow ns)) m := by
  rw [G_at (f := f_glow_of) rfl]
  have c1 := comp_ints (G := G (k + 1)) (own := [1, 2]) (elt := .call 2 (.cons (.var 2) .nil)) (i := 2) (e := [some (.tup (ns.map D.int)), none, none]) (m := m) ns (fun n => .int (2 ^ n.toNat)) fun a ha => by
    simp [wipe, dark_ones_ok k m (h a ha).1 (h a ha).2]
  simp [-List.map_map, bodyD, f_glow_of, b_glow_of, c1, glow]
theorem power_ok (k : Nat) (m : Mem) {n : Int} (h0 : 0 ≤ n) (h4 : n < 4) : G (k + 1) 9 [.int n] m = .ok (.int (2 ^ n.toNat)) m := by
  rw [G_at (f := f__law_power) rfl]
  have cases : n = 0 ∨ n = 1 ∨ n = 2 ∨ n = 3 := by omega
  rcases cases with rfl | rfl | rfl | rfl <;> simp [bodyD, f__law_power, b__law_power] <;> rfl
/-! ### covering -/
def covers (xs ys : List Int) : Bool := decide (ys.length ≤ xs.length) && (xs.zip ys).all fun p => decide (p.2 ≤ p.1)
theorem bunch_covers_ok (k : Nat) (m : Mem) (xs ys : List Int) : G (k + 1) 4 [.tup (xs.map D.int), .tup (ys.map D.int)] m = .ok (.bl (covers xs ys)) m := by
  rw [G_at (f := f_bunch_covers) rfl]
  have c2 := comp_pairs (G := G k) (own := [2, 3, 4]) (elt := .cmp .GtE (.var 3) (.var 4)) (i := 3) (j := 4) (e := [some (.tup (xs.map D.int)), some (.tup (ys.map D.int)), none, none, none]) (m := m) (xs.zip ys) (fun a b => .bl (decide (b ≤ a))) fun a b => by simp [wipe]
  by_cases hl : ys.length ≤ xs.length
  · simp [-List.map_map, bodyD, f_bunch_covers, b_bunch_covers, hl, zip_ints, c2, covers]
  · simp [-List.map_map, bodyD, f_bunch_covers, b_bunch_covers, hl, covers]
theorem law_covers_ok (k : Nat) (m : Mem) (xs ys : List Int) (hz : ys.length ≤ 1000) : G (k + 1) 8 [.tup (xs.map D.int), .tup (ys.map D.int)] m = .ok (.bl (covers xs ys)) m := by
  rw [G_at (f := f__law_covers) rfl]
  by_cases hl : ys.length ≤ xs.length
  · have r : rngS (.int (ys.length : Int)) m = .ok ⟨(List.range ys.length).map fun (k : Nat) => D.int (k : Int), none⟩ m := rng_nat (by omega)
    have c2 := comp_nats (G := G k) (own := [2, 3]) (elt := .var 3) (i := 3) (ifs := .cons (.cmp .Lt (.sub (.var 0) (.var 3)) (.sub (.var 1) (.var 3))) .nil) (e := [some (.tup (xs.map D.int)), some (.tup (ys.map D.int)), none, none]) (m := m)
      (List.range ys.length) (fun i => decide (xs[i]?.getD 0 < ys[i]?.getD 0)) (fun i => .int (i : Int)) fun i hi => by
        have hi := List.mem_range.mp hi
        refine ⟨?_, fun _ => by simp [wipe]⟩
        have e1 : subD m (.tup (xs.map D.int)) (.int (i : Int)) = some (.int (xs[i]?.getD 0)) := sub_tup_int (by omega)
        have e2 : subD m (.tup (ys.map D.int)) (.int (i : Int)) = some (.int (ys[i]?.getD 0)) := sub_tup_int hi
        simp [wipe, e1, e2]
        split <;> simp_all
    have e3 : (decide ((List.range ys.length).filter (fun i => decide (xs[i]?.getD 0 < ys[i]?.getD 0)) = [])) = (xs.zip ys).all fun p => decide (p.2 ≤ p.1) := by
      rw [Bool.eq_iff_iff, decide_eq_true_iff, List.filter_eq_nil_iff, List.all_eq_true]
      constructor
      · intro h p hp
        obtain ⟨i, hi, e⟩ := List.getElem_of_mem hp
        rw [List.length_zip] at hi
        rw [List.getElem_zip] at e
        subst e
        have q := h i (List.mem_range.mpr (by omega))
        simp only [List.getElem?_eq_getElem (show i < xs.length by omega), List.getElem?_eq_getElem (show i < ys.length by omega), Option.getD_some, decide_eq_true_eq] at q ⊢
        omega
      · intro h i hi
        have hi := List.mem_range.mp hi
        have q := h (xs[i], ys[i]) (List.mem_iff_getElem.mpr ⟨i, by rw [List.length_zip]; omega, by rw [List.getElem_zip]⟩)
        simp only [List.getElem?_eq_getElem (show i < xs.length by omega), List.getElem?_eq_getElem (show i < ys.length by omega), Option.getD_some, decide_eq_true_eq] at q ⊢
        omega
    simp [-List.map_map, -List.filter_eq_nil_iff, bodyD, f__law_covers, b__law_covers, hl, r, c2, covers, eqD_nil_nats, e3]
  · simp [-List.map_map, bodyD, f__law_covers, b__law_covers, hl, covers]

/-! ### figures, bunches -/
theorem falling_tup (k : Nat) (m : Mem) (ns : List Int) : G (k + 1) 7 [.tup (ns.map D.int)] m = .ok (.tup ((srt ns).reverse.map D.int)) m := by
  rw [G_at (f := f__law_falling) rfl]
  simp [bodyD, f__law_falling, b__law_falling, bi_sorted_tup]
theorem falling_lst (k : Nat) (m : Mem) (ns : List Int) : G (k + 1) 7 [.lst (ns.map D.int)] m = .ok (.tup ((srt ns).reverse.map D.int)) m := by
  rw [G_at (f := f__law_falling) rfl]
  simp [bodyD, f__law_falling, b__law_falling, bi_sorted_lst]
theorem draw (k : Nat) {m : Mem} {n : Nat} (F : Feed m n) {many : Int} (h0 : 0 < many) (hm : many < 1073741824) : ∃ r m', G (k + 1) 6 [.loc n, .int many] m = .ok (.int r) m' ∧ 0 ≤ r ∧ r < many ∧ Feed m' n ∧ Aside n m m' := by
  rw [G_at (f := f__law_draw) rfl]
  exact draw_ok (d0 := 21) (p := 1000003621) (k1 := 63029) (k2 := 63) (k3 := 7068787) (k4 := 33) (k5 := 41) (by decide) (by decide) (by decide) (by decide) F h0 hm
/-- a bunch that the law made -/
def Bunch (d : D) : Prop := ∃ ns : List Int, d = .tup (ns.map D.int) ∧ ns.length ≤ 5 ∧ (∀ n ∈ ns, 0 ≤ n ∧ n < 4) ∧ ns.Pairwise (fun a b => b ≤ a)
theorem fig_list {P : D → D → Prop} (hP : ∀ a b, P a b → ∃ i : Int, b = .int i ∧ 0 ≤ i ∧ i < 4) {xs ys : List D} (h : Paired P xs ys) : ∃ ns : List Int, ys = ns.map D.int ∧ ns.length = xs.length ∧ ∀ n ∈ ns, 0 ≤ n ∧ n < 4 := by
  induction h with
  | nil => exact ⟨[], rfl, rfl, by simp⟩
  | cons p t ih =>
    obtain ⟨i, rfl, h1, h2⟩ := hP _ _ p
    obtain ⟨ns, rfl, h3, h4⟩ := ih
    refine ⟨i :: ns, rfl, by simp [h3], fun n hn => ?_⟩
    rcases List.mem_cons.mp hn with rfl | hn
    · exact ⟨h1, h2⟩
    · exact h4 n hn
theorem lights_ok (k : Nat) {m : Mem} {n : Nat} (F : Feed m n) : ∃ d m', G (k + 2) 10 [.loc n, .int 3, .int 5] m = .ok d m' ∧ Bunch d ∧ Feed m' n ∧ Aside n m m' := by
  rw [G_at (f := f__law_lights) rfl]
  obtain ⟨r, m1, e1, r0, r1, F1, A1⟩ := draw k F (many := 6) (by decide) (by decide)
  obtain ⟨vs, m2, e2, ⟨F2, A2⟩, ps⟩ := comp_eff (G := G (k + 1)) (own := [3, 4]) (elt := .call 6 (.cons (.var 0) (.cons (.bin .Add (.var 1) (.con (.int 1))) .nil))) (t := .nm 4) (s := ⟨(List.range r.toNat).map fun (k : Nat) => D.int (k : Int), none⟩) (e := [some (.loc n), some (.int 3), some (.int 5), none, none]) (m := m1)
    (M := fun m' => Feed m' n ∧ Aside n m m') (P := fun _ b => ∃ i : Int, b = .int i ∧ 0 ≤ i ∧ i < 4) ⟨F1, A1⟩ (fun _ _ => rfl) fun d hd m' hm => by
      obtain ⟨i, m2, q, i0, i1, F2, A2⟩ := draw k hm.1 (many := 4) (by decide) (by decide)
      exact ⟨_, rfl, .int i, m2, by simp [wipe, q], ⟨F2, hm.2.trans A2⟩, i, rfl, i0, i1⟩
  obtain ⟨ns, rfl, hl, hn⟩ := fig_list (fun _ _ h => h) ps
  simp only [List.length_map, List.length_range] at hl
  refine ⟨.tup ((srt ns).reverse.map D.int), m2, ?_, ⟨_, rfl, ?_, fun x hx => ?_, ?_⟩, F2, A2⟩
  · simp [-List.map_reverse, bodyD, f__law_lights, b__law_lights, e1, rng_small r0 (show r ≤ 16000000 by omega), e2, falling_lst]
  · rw [List.length_reverse, (srt_perm ns).length_eq]; omega
  · exact hn x ((srt_perm ns).mem_iff.mp (List.mem_reverse.mp hx))
  · rw [List.pairwise_reverse]
    exact (srt_sorted ns)

/-! ### odd things -/
def big : Int := 10 ^ 59
theorem ten59 {m : Mem} : binD .Pow m (.int 10) (.int 59) = some (.int big) := rfl
def menu0 (d : D) (some_ : List D) : List D := [.non, .bl true, .bl false, .str "", .str "a", .tup [], .lst [], .lst [d], .tup [d], .int 0, .int 1, .int (-1), .int big] ++ some_
theorem sm_one {w p : Nat} {d : D} (h : Sm w p d) : Sm (w + 1) (p + 1) (.lst [d]) ∧ Sm (w + 1) (p + 1) (.tup [d]) := by
  have h1 := sm_lst (n := 1) (l := [d]) (w := w) (p := p) (fun x hx => by rw [List.mem_singleton.mp hx]; exact h) (Nat.le_refl _)
  have h2 := sm_tup (n := 1) (l := [d]) (w := w) (p := p) (fun x hx => by rw [List.mem_singleton.mp hx]; exact h) (Nat.le_refl _)
  rw [Nat.one_mul] at h1 h2
  exact ⟨h1, h2⟩
theorem sm_menu0 {d : D} {some_ : List D} (h : Sm 200 2 d) (hs : ∀ x ∈ some_, Sm 250 3 x) : ∀ x ∈ menu0 d some_, Sm 250 3 x := by
  intro x hx
  obtain ⟨o1, o2⟩ := sm_one h
  have nil1 : Sm 0 1 (.tup []) := by simpa using sm_tup (n := 0) (l := []) (w := 0) (p := 0) (by simp) (Nat.le_refl _)
  have nil2 : Sm 0 1 (.lst []) := by simpa using sm_lst (n := 0) (l := []) (w := 0) (p := 0) (by simp) (Nat.le_refl _)
  have i1 : Sm 198 0 (.int big) := sm_int (by decide) (by decide)
  have i2 : ∀ i : Int, i.natAbs < 2 ^ 4 → Sm 4 0 (.int i) := fun i hi => sm_int hi (by decide)
  unfold menu0 at hx
  simp only [List.mem_append, List.mem_cons, List.not_mem_nil, or_false] at hx
  rcases hx with (rfl | rfl | rfl | rfl | rfl | rfl | rfl | rfl | rfl | rfl | rfl | rfl | rfl) | hx
  · exact sm_non.mono (by decide) (by decide)
  · exact (sm_bl _).mono (by decide) (by decide)
  · exact (sm_bl _).mono (by decide) (by decide)
  · exact (sm_str (s := "") (by decide +kernel)).mono (by decide +kernel) (by decide)
  · exact (sm_str (s := "a") (by decide +kernel)).mono (by decide +kernel) (by decide)
  · exact nil1.mono (by decide) (by decide)
  · exact nil2.mono (by decide) (by decide)
  · exact o1.mono (by decide) (by decide)
  · exact o2.mono (by decide) (by decide)
  · exact (i2 0 (by decide)).mono (by decide) (by decide)
  · exact (i2 1 (by decide)).mono (by decide) (by decide)
  · exact (i2 (-1) (by decide)).mono (by decide) (by decide)
  · exact i1.mono (by decide) (by decide)
  · exact hs x hx
theorem sm_nums {ns : List Int} (h : ∀ n ∈ ns, 0 ≤ n ∧ n < 4) : ∀ d ∈ ns.map D.int, Sm 2 0 d := by
  intro d hd
  obtain ⟨n, hn, rfl⟩ := List.mem_map.mp hd
  have := h n hn
  exact sm_int (by omega) (by decide)
def five (l : List D) : List D := [.lst l, .tup (l.drop 1), .tup l.dropLast, .tup l.reverse, .tup (l ++ l.take 1)]
def ten (l : List D) : List D := five l ++ five l
def seven (i : Int) : List D := [.bl (decide (i = 1)), .bl (!decide (i = 0)), .int (i + 1), .int (i - 1), .int (-i), .int (2 * i), .str (txt i)]
def fourteen (i : Int) : List D := seven i ++ seven i
theorem b_menu {m : Mem} (d : D) {some_ : List D} (h : some_.length ≤ 10) : binD .Add m (.lst [.non, .bl true, .bl false, .str "", .str "a", .tup [], .lst [], .lst [d], .tup [d], .int 0, .int 1, .int (-1), .int big]) (.lst some_) = some (.lst (menu0 d some_)) :=
  binD_lst (by simp; rw [sizeLine_eq]; omega)
theorem b_five {m : Mem} (l : List D) : binD .Mult m (.lst [.lst l, .tup (l.drop 1), .tup l.dropLast, .tup l.reverse, .tup (l ++ l.take 1)]) (.int 2) = some (.lst (ten l)) := binD_two (l := five l) (by simp [five])
theorem b_seven {m : Mem} (i : Int) : binD .Mult m (.lst [.bl (decide (i = 1)), .bl (!decide (i = 0)), .int (i + 1), .int (i - 1), .int (-i), .int (2 * i), .str (txt i)]) (.int 2) = some (.lst (fourteen i)) := binD_two (l := seven i) (by simp [seven])
theorem b_more {m : Mem} {a b : List D} (ha : a.length ≤ 100) (hb : b.length ≤ 100) : binD .Add m (.lst a) (.lst b) = some (.lst (a ++ b)) := binD_lst (by rw [sizeLine_eq]; omega)
theorem sm_five {ns : List Int} (hl : ns.length ≤ 5) (hn : ∀ n ∈ ns, 0 ≤ n ∧ n < 4) : ∀ x ∈ ten (ns.map D.int), Sm 250 3 x := by
  have sn := sm_nums hn
  have ll : (ns.map D.int).length ≤ 5 := by rw [List.length_map]; exact hl
  generalize ns.map D.int = l at *
  have one : ∀ k : List D, (∀ d ∈ k, d ∈ l) → k.length ≤ 6 → Sm 250 3 (.tup k) := fun k h h2 => (sm_tup (fun d hd => sn d (h d hd)) h2).mono (by decide) (by decide)
  intro x hx
  unfold ten five at hx
  simp only [List.mem_append, List.mem_cons, List.not_mem_nil, or_false] at hx
  have f : x = .lst l ∨ x = .tup (l.drop 1) ∨ x = .tup l.dropLast ∨ x = .tup l.reverse ∨ x = .tup (l ++ l.take 1) := hx.elim id id
  rcases f with rfl | rfl | rfl | rfl | rfl
  · exact (sm_lst sn ll).mono (by decide) (by decide)
  · exact one _ (fun d hd => List.mem_of_mem_drop hd) (by rw [List.length_drop]; omega)
  · exact one _ (fun d hd => List.dropLast_subset l hd) (by rw [List.length_dropLast]; omega)
  · exact one _ (fun d hd => List.mem_reverse.mp hd) (by rw [List.length_reverse]; omega)
  · refine one _ (fun d hd => ?_) (by rw [List.length_append, List.length_take]; omega)
    rcases List.mem_append.mp hd with h | h
    · exact h
    · exact List.mem_of_mem_take h
theorem sm_seven {i : Int} (h0 : 0 ≤ i) (h4 : i < 4) : ∀ x ∈ fourteen i, Sm 250 3 x := by
  have e : i = 0 ∨ i = 1 ∨ i = 2 ∨ i = 3 := by omega
  have si : ∀ j : Int, j.natAbs < 2 ^ 8 → Sm 250 3 (.int j) := fun j hj => (sm_int hj (by decide)).mono (by decide) (by decide)
  intro x hx
  unfold fourteen seven at hx
  simp only [List.mem_append, List.mem_cons, List.not_mem_nil, or_false] at hx
  have f := hx.elim id id
  rcases f with rfl | rfl | rfl | rfl | rfl | rfl | rfl
  · exact (sm_bl _).mono (by decide) (by decide)
  · exact (sm_bl _).mono (by decide) (by decide)
  · exact si _ (by omega)
  · exact si _ (by omega)
  · exact si _ (by omega)
  · exact si _ (by omega)
  · refine (sm_str (txt_ok i)).mono ?_ (by decide)
    rw [txt_len]
    have := int_text_length_le (a := i) (k := 8) (by decide) (by rcases e with rfl | rfl | rfl | rfl <;> decide)
    omega
theorem odd_tup (k : Nat) {m : Mem} {n : Nat} (F : Feed m n) {ns : List Int} (hl : ns.length ≤ 5) (hn : ∀ n ∈ ns, 0 ≤ n ∧ n < 4) {some_ : List D} (hs : ∀ x ∈ some_, Sm 250 3 x) (hz : some_.length ≤ 10) :
    ∃ d m', G (k + 2) 11 [.loc n, .tup (ns.map D.int), .lst some_] m = .ok d m' ∧ Sm 250 3 d ∧ Feed m' n ∧ Aside n m m' := by
  rw [G_at (f := f__law_odd) rfl]
  have e1 : cutD m (.tup (ns.map D.int)) (some 1) none = some (.tup ((ns.map D.int).drop 1)) := cut_from _ 1
  have e2 : cutD m (.tup (ns.map D.int)) none (some (-1)) = some (.tup (ns.map D.int).dropLast) := cut_last _
  have e3 : cutD m (.tup (ns.map D.int)) none (some 1) = some (.tup ((ns.map D.int).take 1)) := cut_to _ 1
  have e4 : binD .Add m (.tup (ns.map D.int)) (.tup ((ns.map D.int).take 1)) = some (.tup (ns.map D.int ++ (ns.map D.int).take 1)) := binD_tup (by simp; rw [sizeLine_eq]; omega)
  have sm0 : Sm 200 2 (.tup (ns.map D.int)) := (sm_tup (sm_nums hn) (by rw [List.length_map]; exact hl)).mono (by decide) (by decide)
  have hL : ∀ x ∈ menu0 (.tup (ns.map D.int)) some_ ++ ten (ns.map D.int), Sm 250 3 x := fun x hx => (List.mem_append.mp hx).elim (sm_menu0 sm0 hs x) (sm_five hl hn x)
  have b2 := b_more (m := m) (a := menu0 (.tup (ns.map D.int)) some_) (b := ten (ns.map D.int)) (by simp [menu0]; omega) (by simp [ten, five])
  have hlen : (menu0 (.tup (ns.map D.int)) some_ ++ ten (ns.map D.int)).length = 23 + some_.length := by simp [menu0, ten, five]; omega
  generalize menu0 (.tup (ns.map D.int)) some_ ++ ten (ns.map D.int) = L at *
  obtain ⟨r, m1, q, r0, r1, F1, A1⟩ := draw k F (many := (L.length : Int)) (by omega) (by omega)
  obtain ⟨d, hd, hdm⟩ := sub_fig (m := m1) r0 r1
  refine ⟨d, m1, ?_, hL d hdm, F1, A1⟩
  generalize ns.map D.int = l at *
  simp [-List.drop_one, bodyD, f__law_odd, b__law_odd, ten59, b_menu _ hz, b2, b_five, e1, e2, e3, e4, q, hd]
theorem odd_int (k : Nat) {m : Mem} {n : Nat} (F : Feed m n) {i : Int} (h0 : 0 ≤ i) (h4 : i < 4) {some_ : List D} (hs : ∀ x ∈ some_, Sm 250 3 x) (hz : some_.length ≤ 10) :
    ∃ d m', G (k + 2) 11 [.loc n, .int i, .lst some_] m = .ok d m' ∧ Sm 250 3 d ∧ Feed m' n ∧ Aside n m m' := by
  rw [G_at (f := f__law_odd) rfl]
  have e1 : biD .str m [.int i] = some (.str (txt i)) := bi_str_int (Nat.lt_of_lt_of_le (show i.natAbs < 2 ^ 2 by omega) (Nat.pow_le_pow_right (by decide) (by decide)))
  have e2 : binD .Mult m (.int 2) (.int i) = some (.int (2 * i)) := binD_mul (small_left (by decide) (by decide))
  have sm0 : Sm 200 2 (.int i) := (sm_int (k := 2) (by omega) (by decide)).mono (by decide) (by decide)
  have hL : ∀ x ∈ menu0 (.int i) some_ ++ fourteen i, Sm 250 3 x := fun x hx => (List.mem_append.mp hx).elim (sm_menu0 sm0 hs x) (sm_seven h0 h4 x)
  have b2 := b_more (m := m) (a := menu0 (.int i) some_) (b := fourteen i) (by simp [menu0]; omega) (by simp [fourteen, seven])
  have hlen : (menu0 (.int i) some_ ++ fourteen i).length = 27 + some_.length := by simp [menu0, fourteen, seven]; omega
  generalize menu0 (.int i) some_ ++ fourteen i = L at *
  obtain ⟨r, m1, q, r0, r1, F1, A1⟩ := draw k F (many := (L.length : Int)) (by omega) (by omega)
  obtain ⟨d, hd, hdm⟩ := sub_fig (m := m1) r0 r1
  refine ⟨d, m1, ?_, hL d hdm, F1, A1⟩
  simp [-List.drop_one, bodyD, f__law_odd, b__law_odd, ten59, b_menu _ hz, b2, b_seven, e1, e2, q, hd]

theorem bent_int (k : Nat) {m : Mem} {n : Nat} (F : Feed m n) {i : Int} (h0 : 0 ≤ i) (h4 : i < 4) {some_ : List D} (hs : ∀ x ∈ some_, Sm 250 3 x) (hz : some_.length ≤ 10) :
    ∃ d m', G (k + 3) 12 [.loc n, .int i, .lst some_] m = .ok d m' ∧ Sm 250 3 d ∧ Feed m' n ∧ Aside n m m' := by
  obtain ⟨d, m', q, h⟩ := odd_int k F h0 h4 hs hz
  refine ⟨d, m', ?_, h⟩
  rw [G_at (f := f__law_bent) rfl]
  simp [bodyD, f__law_bent, b__law_bent, q]
theorem bent_tup (k : Nat) {m : Mem} {n : Nat} (F : Feed m n) {ns : List Int} (hl : ns.length ≤ 5) (hn : ∀ n ∈ ns, 0 ≤ n ∧ n < 4) {some_ : List D} (hs : ∀ x ∈ some_, Sm 250 3 x) (hz : some_.length ≤ 10) :
    ∃ d m', G (k + 4) 12 [.loc n, .tup (ns.map D.int), .lst some_] m = .ok d m' ∧ Sm 1300 5 d ∧ Feed m' n ∧ Aside n m m' := by
  rw [G_at (f := f__law_bent) rfl]
  by_cases hc : 0 < ns.length
  · obtain ⟨r, m1, q1, r0, r1, F1, A1⟩ := draw (k + 2) F (many := 7) (by decide) (by decide)
    by_cases hr : 0 < r
    · obtain ⟨a, m2, q2, a0, a1, F2, A2⟩ := draw (k + 2) F1 (many := (ns.length : Int)) (by omega) (by omega)
      obtain ⟨j, rfl⟩ : ∃ j : Nat, a = (j : Int) := ⟨a.toNat, by omega⟩
      have hj : j < ns.length := by omega
      have e1 : subD m2 (.tup (ns.map D.int)) (.int (j : Int)) = some (.int ns[j]) := sub_tup (by rw [List.getElem?_map, List.getElem?_eq_getElem hj]; rfl)
      obtain ⟨d, m3, q3, sd, F3, A3⟩ := bent_int k F2 (hn _ (List.getElem_mem hj)).1 (hn _ (List.getElem_mem hj)).2 hs hz
      have e2 : ∀ m : Mem, cutD m (.tup (ns.map D.int)) none (some (j : Int)) = some (.tup ((ns.map D.int).take j)) := fun m => cut_to _ j
      have e3 : ∀ m : Mem, cutD m (.tup (ns.map D.int)) (some ((j : Int) + 1)) none = some (.tup ((ns.map D.int).drop (j + 1))) := fun m => cut_from _ (j + 1)
      have sn := sm_nums hn
      have ll : (ns.map D.int).length ≤ 5 := by rw [List.length_map]; exact hl
      have lh : (ns.map D.int).length = ns.length := List.length_map _
      generalize ns.map D.int = l at *
      have e4 : binD .Add m3 (.tup (l.take j)) (.tup [d]) = some (.tup (l.take j ++ [d])) := binD_tup (by rw [List.length_take]; rw [sizeLine_eq]; simp; omega)
      have e5 : binD .Add m3 (.tup (l.take j ++ [d])) (.tup (l.drop (j + 1))) = some (.tup (l.take j ++ [d] ++ l.drop (j + 1))) := binD_tup (by rw [List.length_append, List.length_take, List.length_drop]; rw [sizeLine_eq]; simp; omega)
      refine ⟨.tup (l.take j ++ [d] ++ l.drop (j + 1)), m3, ?_, (sm_tup (n := 5) (w := 250) (p := 3) (fun x hx => ?_) (by rw [List.length_append, List.length_append, List.length_take, List.length_drop]; simp; omega)).mono (by decide) (by decide), F3, (A1.trans A2).trans A3⟩
      · simp [-List.append_assoc, -List.map_take, -List.map_drop, bodyD, f__law_bent, b__law_bent, lh, hc, q1, hr, q2, e1, e2, e3, e4, e5, q3]
      · rcases List.mem_append.mp hx with hx | hx
        · rcases List.mem_append.mp hx with hx | hx
          · exact (sn x (List.mem_of_mem_take hx)).mono (by decide) (by decide)
          · rw [List.mem_singleton.mp hx]; exact sd
        · exact (sn x (List.mem_of_mem_drop hx)).mono (by decide) (by decide)
    · obtain ⟨d, m2, q2, sd, F2, A2⟩ := odd_tup (k + 1) F1 hl hn hs hz
      refine ⟨d, m2, ?_, sd.mono (by decide) (by decide), F2, A1.trans A2⟩
      simp [bodyD, f__law_bent, b__law_bent, hc, q1, hr, q2]
  · obtain ⟨d, m2, q2, sd, F2, A2⟩ := odd_tup (k + 1) F hl hn hs hz
    refine ⟨d, m2, ?_, sd.mono (by decide) (by decide), F2, A2⟩
    simp [bodyD, f__law_bent, b__law_bent, hc, q2]
end K32
namespace K32
open PySem Z
/-! ### the law's own looks -/
theorem falls_cons (x y : Int) (r : List Int) : falls (x :: y :: r) = (decide (y ≤ x) && falls (y :: r)) := by
  unfold falls
  simp
theorem falls_iff : ∀ ns : List Int, falls ns = true ↔ ns.Pairwise (fun a b => b ≤ a)
  | [] => by simp [falls]
  | [x] => by simp [falls]
  | x :: y :: r => by
    rw [falls_cons, Bool.and_eq_true, decide_eq_true_eq, falls_iff (y :: r), List.pairwise_cons (a := x)]
    constructor
    · rintro ⟨h1, h2⟩
      refine ⟨fun z hz => ?_, h2⟩
      rcases List.mem_cons.mp hz with rfl | hz
      · exact h1
      · have := (List.pairwise_cons.mp h2).1 z hz
        omega
    · rintro ⟨h1, h2⟩
      exact ⟨h1 y (List.mem_cons_self ..), h2⟩
theorem falls_srt (ns : List Int) : decide (ns = (srt ns).reverse) = falls ns := by
  rw [Bool.eq_iff_iff, decide_eq_true_iff, falls_iff]
  constructor
  · intro h
    rw [h, List.pairwise_reverse]
    exact srt_sorted ns
  · intro h
    have q : ns.reverse = srt ns := sorted_eq (List.reverse_perm ns) (by rw [List.pairwise_reverse]; exact h)
    rw [← q, List.reverse_reverse]
theorem sm_dat {w p : Nat} {d : D} (h : Sm w p d) : Dat d := by
  obtain ⟨x, e, _⟩ := h
  cases d <;> first | exact True.intro | (simp [toPy] at e)
theorem pys_dat : ∀ {l : List D} {xs : List PyData}, toPys l = some xs → ∀ x ∈ l, Dat x
  | [], _, _, x, hx => by simp at hx
  | d :: l, xs, h, x, hx => by
    simp only [toPys] at h
    cases e1 : toPy d with
    | none => rw [e1] at h; cases h
    | some y =>
      cases e2 : toPys l with
      | none => rw [e1, e2] at h; cases h
      | some ys =>
        rcases List.mem_cons.mp hx with rfl | hx
        · cases x <;> first | exact True.intro | (simp [toPy] at e1)
        · exact pys_dat e2 x hx
theorem sm_dats {w p : Nat} {l : List D} (h : Sm w p (.tup l)) : ∀ x ∈ l, Dat x := by
  obtain ⟨x, e, _⟩ := h
  simp only [toPy] at e
  cases q : toPys l with
  | none => rw [q] at e; cases e
  | some xs => exact pys_dat q
/-- the loop over a tuple's lights -/
theorem lights_loop {G : Sg} {stays : Mem → Bool} {m : Mem} (hs : ∀ m, stays m = true) (a b c d e f g i j k : Option D) : ∀ (l : List D) (v : Bool) (h : Option D), (∀ x ∈ l, Dat x) →
    ∃ h', forGo stays (fun e m => execSs G (.cons (.set 7 (.and (.var 7) (.and (.bi .isinst (.cons (.var 8) (.cons (.con (.ty "int")) .nil))) (.and (.not (.bi .isinst (.cons (.var 8) (.cons (.con (.ty "bool")) .nil)))) (.cmp .GtE (.var 8) (.con (.int 0))))))) .nil) e m) (.nm 8) l
      [a, b, c, d, e, f, g, some (.bl v), h, i, j, k] m = .nx [a, b, c, d, e, f, g, some (.bl (v && l.all isNum)), h', i, j, k] m
  | [], v, h, _ => ⟨h, by unfold forGo; rw [if_pos (hs m)]; simp⟩
  | x :: l, v, h, hd => by
    obtain ⟨h', ih⟩ := lights_loop (G := G) (m := m) hs a b c d e f g i j k l (v && isNum x) (some x) fun y hy => hd y (List.mem_cons_of_mem _ hy)
    refine ⟨h', ?_⟩
    unfold forGo
    rw [if_pos (hs m)]
    have hx := hd x (List.mem_cons_self ..)
    have one : execSs G (.cons (.set 7 (.and (.var 7) (.and (.bi .isinst (.cons (.var 8) (.cons (.con (.ty "int")) .nil))) (.and (.not (.bi .isinst (.cons (.var 8) (.cons (.con (.ty "bool")) .nil)))) (.cmp .GtE (.var 8) (.con (.int 0))))))) .nil)
        [a, b, c, d, e, f, g, some (.bl v), some x, i, j, k] m = .nx [a, b, c, d, e, f, g, some (.bl (v && isNum x)), some x, i, j, k] m := by
      cases v <;> cases x <;> first | exact hx.elim | simp [isNum]
    simp only [bind_nm, List.set_cons_succ, List.set_cons_zero, one, ih, List.all_cons, Bool.and_assoc]
    done
def bodyItem : Ss := match b_law with
  | .cons _ (.cons _ (.cons _ (.cons _ (.cons _ (.cons _ (.cons (.for_ _ _ b) _)))))) => b
  | _ => .nil
theorem item_ok (k : Nat) (m : Mem) {it : D} (hd : Sm 2000 8 it) (a b c d e g h i j l n : Option D) : ∃ g' h' i', execSs (G (k + 3)) bodyItem [a, b, c, d, e, some it, g, h, i, j, l, n] m = .nx [a, b, c, d, e, some it, g', h', i', j, l, n] m := by
  obtain ⟨s, hr⟩ := hd.repr (by decide) (by decide)
  have hdat := sm_dat hd
  have isb := is_bunch_ok (k + 1) m hdat (fun l e x hx => by subst e; exact sm_dats hd x hx)
  obtain ⟨s2, hr2⟩ := repr_bls (isBunch it) (isBunch it)
  by_cases ht : ∃ l, it = .tup l
  · obtain ⟨xs, rfl⟩ := ht
    obtain ⟨h', lp⟩ := lights_loop (G := G (k + 3)) (stays := (Src.mk xs none).stays) (m := m) (fun _ => rfl) a b c d e (some (.tup xs)) (some (.str s)) j l n xs true i (sm_dats hd)
    have lp : loopF (G (k + 3)) (.cons (.set 7 (.and (.var 7) (.and (.bi .isinst (.cons (.var 8) (.cons (.con (.ty "int")) .nil))) (.and (.not (.bi .isinst (.cons (.var 8) (.cons (.con (.ty "bool")) .nil)))) (.cmp .GtE (.var 8) (.con (.int 0))))))) .nil) (.nm 8) ⟨xs, none⟩
      [a, b, c, d, e, some (.tup xs), some (.str s), some (.bl true), i, j, l, n] m = .nx [a, b, c, d, e, some (.tup xs), some (.str s), some (.bl (true && xs.all isNum)), h', j, l, n] m := lp
    rw [Bool.true_and] at lp
    by_cases hn : xs.all isNum = true
    · obtain ⟨ns, rfl, h0⟩ := numbers hn
      have fl := falling_tup (k + 2) m ns
      have hb : isBunch (.tup (ns.map D.int)) = falls ns := by simp only [isBunch, hn, nums_map, Bool.true_and]
      rw [hb] at isb hr2
      refine ⟨some (.str s), some (.bl (falls ns)), h', ?_⟩
      simp [-List.map_reverse, bodyItem, b_law, hr, setSome, lp, hn, fl, eqD_tups, falls_srt, isb, hr2]
    · have hn : xs.all isNum = false := by simpa using hn
      have hb : isBunch (.tup xs) = false := by simp only [isBunch, hn, Bool.false_and]
      rw [hb] at isb hr2
      refine ⟨some (.str s), some (.bl false), h', ?_⟩
      simp [-List.map_reverse, bodyItem, b_law, hr, setSome, lp, hn, isb, hr2]
  · have hb : isBunch it = false := by cases it <;> first | rfl | exact absurd ⟨_, rfl⟩ ht
    have hk : isinstD m it "tuple" = some false := by cases it <;> first | rfl | exact absurd ⟨_, rfl⟩ ht | exact hdat.elim
    rw [hb] at isb hr2
    obtain ⟨h', lp⟩ := lights_loop (G := G (k + 3)) (stays := (Src.mk [] none).stays) (m := m) (fun _ => rfl) a b c d e (some it) (some (.str s)) j l n [] false i (by simp)
    have lp : loopF (G (k + 3)) (.cons (.set 7 (.and (.var 7) (.and (.bi .isinst (.cons (.var 8) (.cons (.con (.ty "int")) .nil))) (.and (.not (.bi .isinst (.cons (.var 8) (.cons (.con (.ty "bool")) .nil)))) (.cmp .GtE (.var 8) (.con (.int 0))))))) .nil) (.nm 8) ⟨[], none⟩
      [a, b, c, d, e, some it, some (.str s), some (.bl false), i, j, l, n] m = .nx [a, b, c, d, e, some it, some (.str s), some (.bl false), h', j, l, n] m := lp
    refine ⟨some (.str s), some (.bl false), h', ?_⟩
    simp [-List.map_reverse, bodyItem, b_law, hr, hk, setSome, lp, isb, hr2]
/-! ### the bunches compared -/
def bodyUp : Ss := match b_law with
  | .cons _ (.cons _ (.cons _ (.cons _ (.cons _ (.cons _ (.cons _ (.cons (.for_ _ _ b) _))))))) => b
  | _ => .nil
def bodyLow : Ss := match bodyUp with
  | .cons _ (.cons _ (.cons (.for_ _ _ b) _)) => b
  | _ => .nil
theorem low_ok (k : Nat) (m : Mem) {xs ys : List Int} (hy : ys.length ≤ 1000) (a b c d e f g h i n : Option D) : ∃ h', execSs (G (k + 1)) bodyLow [a, b, c, d, e, f, g, h, i, some (.tup (xs.map D.int)), some (.tup (ys.map D.int)), n] m = .nx [a, b, c, d, e, f, g, h', i, some (.tup (xs.map D.int)), some (.tup (ys.map D.int)), n] m := by
  obtain ⟨s, hr⟩ := repr_bls (covers xs ys) (covers xs ys)
  refine ⟨some (.bl (covers xs ys)), ?_⟩
  simp [bodyLow, bodyUp, b_law, law_covers_ok k m xs ys hy, bunch_covers_ok k m xs ys, hr]
theorem up_ok (k : Nat) (m : Mem) {q : Nat} {bs : List D} (hq : m[q]? = some (.lst bs)) (hb : ∀ x ∈ bs, Bunch x) {it : D} (hi : Bunch it) (a b c e f g h i j l n : Option D) : ∃ h' l', execSs (G (k + 2)) bodyUp [a, b, c, some (.loc q), e, f, g, h, i, some it, l, n] m = .nx [a, b, c, some (.loc q), e, f, g, h', i, some it, l', n] m := by
  obtain ⟨ns, rfl, h5, h4, _⟩ := hi
  have gl := glow_of_ok k m h4
  have c1 := comp_ints (G := G (k + 2)) (own := [11, 8]) (elt := .call 9 (.cons (.var 8) .nil)) (i := 8) (e := [a, b, c, some (.loc q), e, f, g, h, i, some (.tup (ns.map D.int)), l, n]) (m := m) ns (fun n => .int (2 ^ n.toNat)) fun x hx => by
    simp [wipe, power_ok (k + 1) m (h4 x hx).1 (h4 x hx).2]
  obtain ⟨e', m', lp, rfl, h', l', he⟩ := loop_all (G := G (k + 2)) (b := bodyLow) (t := .nm 10) (s := ⟨bs, some q⟩) (fun e1 m1 => m1 = m ∧ ∃ h' l', e1 = [a, b, c, some (.loc q), e, f, g, h', i, some (.tup (ns.map D.int)), l', n]) (fun e1 m1 z => by rw [z.1]; exact src_at hq) (fun d hd e1 m1 z => by
      obtain ⟨rfl, h', l', rfl⟩ := z
      obtain ⟨ys, rfl, y5, _, _⟩ := hb d hd
      obtain ⟨h2, q2⟩ := low_ok (k + 1) m1 (xs := ns) (ys := ys) (by omega) a b c (some (.loc q)) e f g h' i n
      exact ⟨_, rfl, _, _, by simpa using q2, rfl, h2, _, rfl⟩) (e := [a, b, c, some (.loc q), e, f, g, some (.int (glow ns)), i, some (.tup (ns.map D.int)), l, n]) (m := m) ⟨rfl, some (.int (glow ns)), l, rfl⟩
  subst he
  refine ⟨h', l', ?_⟩
  have sc : srcOf m' (.loc q) = some ⟨bs, some q⟩ := src_loc hq
  simp only [bodyLow, bodyUp, b_law] at lp
  have su : (ns.map fun n => (2 : Int) ^ n.toNat).sum = glow ns := rfl
  simp [-List.map_map, bodyUp, b_law, c1, su, gl, sc, lp]
end K32
namespace K32
open PySem Z
/-- the state of the law: the feed, its two lists -/
structure At (m : Mem) (p q : Nat) (its bs : List D) : Prop where
  feed : Feed m 0
  pp : m[p]? = some (.lst its)
  qq : m[q]? = some (.lst bs)
  p0 : p ≠ 0
  q0 : q ≠ 0
  pq : p ≠ q
  good : ∀ x ∈ its, Sm 2000 8 x
  bun : ∀ x ∈ bs, Bunch x
def bodyLap : Ss := match b_law with
  | .cons _ (.cons _ (.cons _ (.cons _ (.cons _ (.cons (.for_ _ _ b) _))))) => b
  | _ => .nil
theorem bunch_sm {d : D} (h : Bunch d) : Sm 2000 8 d := by
  obtain ⟨ns, rfl, h5, h4, _⟩ := h
  exact (sm_tup (sm_nums h4) (by rw [List.length_map]; exact h5)).mono (by decide) (by decide)
theorem lap_ok (k : Nat) {m : Mem} {p q : Nat} {its bs : List D} (A : At m p q its bs) (hi : its.length ≤ 1000) (hb : bs.length ≤ 1000) (a e f g h i j l n : Option D) :
    ∃ m' p' its' bs', execSs (G (k + 4)) bodyLap [a, some (.loc 0), some (.loc p), some (.loc q), e, f, g, h, i, j, l, n] m = .nx [a, some (.loc 0), some (.loc p'), some (.loc q), e, f, g, h, i, j, l, n] m' ∧ At m' p' q its' bs' ∧ its'.length = its.length + 3 ∧ bs'.length = bs.length + 1 := by
  obtain ⟨d, m1, q1, hd, F1, A1⟩ := lights_ok (k + 2) A.feed
  have hq1 : m1[q]? = some (.lst bs) := (A1.oth q A.q0).trans A.qq
  have hp1 : m1[p]? = some (.lst its) := (A1.oth p A.p0).trans A.pp
  have hq : q < m1.length := (List.getElem?_eq_some_iff.mp hq1).1
  obtain ⟨ns, rfl, h5, h4, _⟩ := id hd
  have F2 : Feed (m1.set q (.lst (bs ++ [.tup (ns.map D.int)]))) 0 := by
    obtain ⟨cs, x, y, z, h0, e⟩ := F1
    exact ⟨cs, x, y, z, h0, by rw [List.getElem?_set_ne A.q0]; exact e⟩
  have hq2 : (m1.set q (.lst (bs ++ [.tup (ns.map D.int)])))[q]? = some (.lst (bs ++ [.tup (ns.map D.int)])) := List.getElem?_set_self hq
  have hp2 : (m1.set q (.lst (bs ++ [.tup (ns.map D.int)])))[p]? = some (.lst its) := by rw [List.getElem?_set_ne (Ne.symm A.pq)]; exact hp1
  have ap := app_loc (d := .tup (ns.map D.int)) (e := [a, some (.loc 0), some (.loc p), some (.loc q), e, f, g, h, i, j, l, n]) hq1 (by omega)
  generalize m1.set q (.lst (bs ++ [.tup (ns.map D.int)])) = m2 at *
  obtain ⟨b, m3, q3, sb, F3, A3⟩ := bent_tup k F2 h5 h4 (some_ := [.int 2, .int (-2)]) (fun x hx => by
    simp only [List.mem_cons, List.not_mem_nil, or_false] at hx
    rcases hx with rfl | rfl
    · exact (sm_int (k := 4) (by decide) (by decide)).mono (by decide) (by decide)
    · exact (sm_int (k := 4) (by decide) (by decide)).mono (by decide) (by decide)) (by simp)
  have hq3 : m3[q]? = some (.lst (bs ++ [.tup (ns.map D.int)])) := (A3.oth q A.q0).trans hq2
  have hp3 : m3[p]? = some (.lst its) := (A3.oth p A.p0).trans hp2
  have hl : p < m3.length := (List.getElem?_eq_some_iff.mp hp3).1
  have hl2 : q < m3.length := (List.getElem?_eq_some_iff.mp hq3).1
  have ad := add_loc (k := [.tup (ns.map D.int), .tup (ns.map D.int).reverse, b]) hp3 (by simp; omega)
  have la := last_loc hq2
  have lh : (ns.map D.int).length = ns.length := List.length_map _
  have sn := sm_nums h4
  have hdb : Bunch (.tup (ns.map D.int)) := hd
  generalize ns.map D.int = t at *
  refine ⟨m3 ++ [.lst (its ++ [.tup t, .tup t.reverse, b])], m3.length, its ++ [.tup t, .tup t.reverse, b], bs ++ [.tup t], ?_, ⟨?_, ?_, ?_, ?_, A.q0, ?_, ?_, ?_⟩, by simp, by simp⟩
  · have step1 : execS (G (k + 4)) (.app 3 (.call 10 (.cons (.var 1) (.cons (.con (.int 3)) (.cons (.con (.int 5)) .nil))))) [a, some (.loc 0), some (.loc p), some (.loc q), e, f, g, h, i, j, l, n] m = .nx [a, some (.loc 0), some (.loc p), some (.loc q), e, f, g, h, i, j, l, n] m2 := by
      rw [x_app (o := .loc q) (l := bs) 3 _ rfl (rd_loc A.qq)]
      simp [q1, ap]
    simp [-List.append_assoc, bodyLap, b_law, step1, la, q3, ad]
  · obtain ⟨cs, x, y, z, h0, e⟩ := F3
    exact ⟨cs, x, y, z, h0, by rw [List.getElem?_append_left (by omega)]; exact e⟩
  · simp
  · rw [List.getElem?_append_left hl2]; exact hq3
  · omega
  · omega
  · intro x hx
    rcases List.mem_append.mp hx with hx | hx
    · exact A.good x hx
    · simp only [List.mem_cons, List.not_mem_nil, or_false] at hx
      rcases hx with rfl | rfl | rfl
      · exact bunch_sm hdb
      · exact (sm_tup (n := 5) (fun y hy => sn y (List.mem_reverse.mp hy)) (by rw [List.length_reverse]; omega)).mono (by decide) (by decide)
      · exact sb.mono (by decide) (by decide)
  · intro x hx
    rcases List.mem_append.mp hx with hx | hx
    · exact A.bun x hx
    · rw [List.mem_singleton.mp hx]; exact hdb

def bodyAll : Ss := match b_law with
  | .cons _ (.cons _ (.cons _ (.cons _ (.cons _ (.cons _ (.cons _ (.cons _ l))))))) => l
  | _ => .nil
theorem law_split : b_law = .cons (nth 0 b_law) (.cons (nth 1 b_law) (.cons (nth 2 b_law) (.cons (nth 3 b_law) (.cons (nth 4 b_law) (.cons (.for_ (.nm 4) (.rng (.con (.int 12))) bodyLap) (.cons (.for_ (.nm 5) (.var 2) bodyItem) (.cons (.for_ (.nm 9) (.var 3) bodyUp) (.cons (nth 8 b_law) .nil)))))))) := rfl
def L0 : List D := [.tup [], .tup [.int 0], .tup [.int 3, .int 3, .int 1, .int 0], .tup [.int 0, .int 0], .tup [.int 1, .int 2], .tup [.int 2, .int 2, .int 2], .tup [.int 40, .int 1], .tup [.int 60, .int 0], .lst [.int 1], .lst [], .non, .bl true, .tup [.bl true]]
def L1 : List D := [.tup [.int 1, .int (-1)], .tup [.int (-1)], .tup [.int 1, .non], .tup [.int 2, .str "1"], .tup [.tup [.int 1]], .str "10", .str "", .int 0, .tup [.int big], .tup [.int 2, .int 1, .lst [.int 0]], .tup [.bl false]]
theorem sm_its : ∀ x ∈ (L0 ++ [.tup [.int 2, .bl true]]) ++ L1, Sm 2000 8 x := sm_list (by decide +kernel)
abbrev E1 (ns : List Int) : Z.Env := [some (.scr ns), some (.loc 0), none, none, none, none, none, none, none, none, none, none]
abbrev E2 (ns : List Int) : Z.Env := [some (.scr ns), some (.loc 0), some (.loc 1), none, none, none, none, none, none, none, none, none]
abbrev E3 (ns : List Int) : Z.Env := [some (.scr ns), some (.loc 0), some (.loc 2), none, none, none, none, none, none, none, none, none]
abbrev E4 (ns : List Int) : Z.Env := [some (.scr ns), some (.loc 0), some (.loc 2), some (.loc 3), none, none, none, none, none, none, none, none]
theorem law_ok (k : Nat) (ns : List Int) : ∃ m, G (k + 6) 13 [.scr ns] [] = .ok (.bl true) m := by
  rw [G_at (f := f_law) rfl]
  have f0 : G (k + 5) 5 [.scr ns] [] = .ok (.loc 0) [FdO (ns.take 63) 0 0 0] := by
    rw [G_at (f := f__law_feed) rfl]
    obtain ⟨m', h, e⟩ := feed_ok (G := G (k + 4)) (m := []) ns 63
    rw [e] at h
    exact h
  generalize hF : FdO (ns.take 63) 0 0 0 = F at f0
  have s0 : execS (G (k + 5)) (nth 0 b_law) [some (.scr ns), none, none, none, none, none, none, none, none, none, none, none] [] = .nx (E1 ns) [F] := by simp [nth, b_law, f0]
  have s1 : execS (G (k + 5)) (nth 1 b_law) (E1 ns) [F] = .nx (E2 ns) [F, .lst L0] := by simp [nth, b_law, L0]
  have s2 : execS (G (k + 5)) (nth 2 b_law) (E2 ns) [F, .lst L0] = .nx (E2 ns) [F, .lst (L0 ++ [.tup [.int 2, .bl true]])] := by
    show execS (G (k + 5)) (.app 2 (.tup (.cons (.con (.int 2)) (.cons (.con (.bl true)) .nil)))) (E2 ns) [F, .lst L0] = _
    rw [x_app (o := .loc 1) (l := L0) 2 _ rfl (rd_loc rfl)]
    simp [app_loc (m := [F, .lst L0]) (n := 1) (l := L0) rfl (by decide)]
  have s3 : execS (G (k + 5)) (nth 3 b_law) (E2 ns) [F, .lst (L0 ++ [.tup [.int 2, .bl true]])] = .nx (E3 ns) [F, .lst (L0 ++ [.tup [.int 2, .bl true]]), .lst ((L0 ++ [.tup [.int 2, .bl true]]) ++ L1)] := by
    have ad := add_loc (m := [F, .lst (L0 ++ [.tup [.int 2, .bl true]])]) (n := 1) (l := L0 ++ [.tup [.int 2, .bl true]]) (k := L1) rfl (by decide)
    generalize L0 ++ [.tup [.int 2, .bl true]] = L at *
    unfold L1 at ad
    simp [nth, b_law, ten59, ad, L1]
  generalize hL : (L0 ++ [.tup [.int 2, .bl true]]) ++ L1 = its at s3
  have gi : ∀ x ∈ its, Sm 2000 8 x := by rw [← hL]; exact sm_its
  have li : its.length = 25 := by rw [← hL]; rfl
  generalize MO.lst (L0 ++ [.tup [.int 2, .bl true]]) = O1 at s2 s3
  have s4 : execS (G (k + 5)) (nth 4 b_law) (E3 ns) [F, O1, .lst its] = .nx (E4 ns) [F, O1, .lst its, .lst []] := by simp [nth, b_law]
  have A0 : At [F, O1, .lst its, .lst []] 2 3 its [] := ⟨⟨_, 0, 0, 0, Int.le_refl _, by rw [← hF]; rfl⟩, rfl, rfl, by decide, by decide, by decide, gi, by simp⟩
  -- the laps
  have r12 : ∀ m, rngS (.int 12) m = .ok ⟨(List.range 12).map fun (k : Nat) => D.int (k : Int), none⟩ m := fun m => rng_small (by decide) (by decide)
  obtain ⟨e5, m5, lp5, p, its5, bs5, A5, _, _, x4, rfl⟩ := loop_inv (G := G (k + 5)) (b := bodyLap) (t := .nm 4) (s := ⟨(List.range 12).map fun (k : Nat) => D.int (k : Int), none⟩)
    (fun l e m => ∃ p its bs, At m p 3 its bs ∧ its.length + 3 * l.length ≤ 100 ∧ bs.length + l.length ≤ 100 ∧ ∃ x4, e = [some (.scr ns), some (.loc 0), some (.loc p), some (.loc 3), x4, none, none, none, none, none, none, none]) (fun l e m _ => rfl) (fun d l e m z => by
      obtain ⟨p, its, bs, A, h1, h2, x4, rfl⟩ := z
      simp only [List.length_cons] at h1 h2
      obtain ⟨m', p', its', bs', q, A', l1, l2⟩ := lap_ok (k + 1) A (by omega) (by omega) (some (.scr ns)) (some d) none none none none none none none
      exact ⟨_, rfl, _, m', q, p', its', bs', A', by omega, by omega, some d, rfl⟩) (e := E4 ns) (m := [F, O1, .lst its, .lst []]) ⟨2, its, [], A0, by simp; omega, by simp, none, rfl⟩
  -- the items
  obtain ⟨e6, m6, lp6, rfl, x5, x6, x7, x8, rfl⟩ := loop_all (G := G (k + 5)) (b := bodyItem) (t := .nm 5) (s := ⟨its5, some p⟩) (fun e m => m = m5 ∧ ∃ x5 x6 x7 x8, e = [some (.scr ns), some (.loc 0), some (.loc p), some (.loc 3), x4, x5, x6, x7, x8, none, none, none])
    (fun e m z => by rw [z.1]; exact src_at A5.pp) (fun d hd e m z => by
      obtain ⟨rfl, x5, x6, x7, x8, rfl⟩ := z
      obtain ⟨g', h', i', q⟩ := item_ok (k + 2) m (A5.good d hd) (some (.scr ns)) (some (.loc 0)) (some (.loc p)) (some (.loc 3)) x4 x6 x7 x8 none none none
      exact ⟨_, rfl, _, _, by simpa using q, rfl, some d, g', h', i', rfl⟩) (e := [some (.scr ns), some (.loc 0), some (.loc p), some (.loc 3), x4, none, none, none, none, none, none, none]) (m := m5) ⟨rfl, none, none, none, none, rfl⟩
  -- the bunches
  obtain ⟨e7, m7, lp7, rfl, y7, y9, y10, rfl⟩ := loop_all (G := G (k + 5)) (b := bodyUp) (t := .nm 9) (s := ⟨bs5, some 3⟩) (fun e m => m = m6 ∧ ∃ x7 x9 x10, e = [some (.scr ns), some (.loc 0), some (.loc p), some (.loc 3), x4, x5, x6, x7, x8, x9, x10, none])
    (fun e m z => by rw [z.1]; exact src_at A5.qq) (fun d hd e m z => by
      obtain ⟨rfl, x7, x9, x10, rfl⟩ := z
      obtain ⟨h', l', q⟩ := up_ok (k + 3) m A5.qq A5.bun (A5.bun d hd) (some (.scr ns)) (some (.loc 0)) (some (.loc p)) x4 x5 x6 x7 x8 x9 x10 none
      exact ⟨_, rfl, _, _, by simpa using q, rfl, h', _, l', rfl⟩) (e := [some (.scr ns), some (.loc 0), some (.loc p), some (.loc 3), x4, x5, x6, x7, x8, none, none, none]) (m := m6) ⟨rfl, x7, none, none, rfl⟩
  have gl := glow_of_ok (k + 3) m7 (ns := [3, 0]) (by decide)
  have gv : glow [3, 0] = 9 := by decide
  rw [gv] at gl
  have s8 : ∀ e : Z.Env, execS (G (k + 5)) (nth 8 b_law) e m7 = .rt (.bl true) m7 := fun e => by
    have gl : G (k + 5) 3 [.tup [.int 3, .int 0]] m7 = .ok (.int 9) m7 := gl
    simp [nth, b_law, gl]
  refine ⟨m7, ?_⟩
  show (execSs (G (k + 5)) b_law [some (.scr ns), none, none, none, none, none, none, none, none, none, none, none] []).out = _
  rw [law_split]
  have sp := src_loc A5.pp
  have sq := src_loc A5.qq
  simp only [xs_cons, xs_nil, s0, s1, s2, s3, s4, Fl.andThen_nx, Fl.andThen_rt, x_for, evi_rng, ev_con, Out.bind_ok, r12, Out.fl_ok, lp5, evi_var, ev_var, List.getD_cons_succ, List.getD_cons_zero, lift_some, sp, sq, lp6, lp7, s8, out_rt]
/-- what the law must come to -/
theorem ends : LawEnds (progG defs 20 13) 63 := fun ns _ => law_ok 14 ns
end K32
open PySem PySem.W PyProof.Rows Z
set_option maxRecDepth 100000 in
set_option maxHeartbeats 0 in
theorem PySem.Challenge.cw_handsmade_k32_bunches_told_holds : PySem.Challenge.rw_handsmade_k32_bunches_told.Holds := by
  w_on; o_law; k_head; (case hw => w_witness2)
  k_fill
  refine Z.law_walk (l := PySem.Challenge.rw_handsmade_k32_bunches_told) (n := 63) (k := 20) (x := "_law_script") (S := progG K32.defs 20 13) rfl (by decide) rfl ⟨rfl, by decide, by decide⟩ (fun w h Y => PySem.W.kIn_of Y) ?F K32.ends
  case F =>
    intro w mg fa h KX G hmg
    refine' K32.law_at KX G hmg ?n0 ?l0 ?c0 ?k0 ?n1 ?l1 ?c1 ?k1 ?n2 ?l2 ?c2 ?k2 ?n3 ?l3 ?c3 ?k3 ?n4 ?l4 ?c4 ?k4 ?n5 ?l5 ?c5 ?k5 ?n6 ?l6 ?c6 ?k6 ?n7 ?l7 ?c7 ?k7 ?n8 ?l8 ?c8 ?k8 ?n9 ?l9 ?c9 ?k9 ?n10 ?l10 ?c10 ?k10 ?n11 ?l11 ?c11 ?k11 ?n12 ?l12 ?c12 ?k12 ?n13 ?l13 ?c13 ?k13 ?z0 ?z1 ?z2 ?z3 ?z4 ?z5 ?z6 ?z7 ?z8 ?z9 ?z10 ?z11 ?z12
    (case n0 => k_is); (case l0 => k_is); (case c0 => k_is); (case k0 => k_is)
    (case n1 => k_is); (case l1 => k_is); (case c1 => k_is); (case k1 => k_is)
    (case n2 => k_is); (case l2 => k_is); (case c2 => k_is); (case k2 => k_is)
    (case n3 => k_is); (case l3 => k_is); (case c3 => k_is); (case k3 => k_is)
    (case n4 => k_is); (case l4 => k_is); (case c4 => k_is); (case k4 => k_is)
    (case n5 => k_is); (case l5 => k_is); (case c5 => k_is); (case k5 => k_is)
    (case n6 => k_is); (case l6 => k_is); (case c6 => k_is); (case k6 => k_is)
    (case n7 => k_is); (case l7 => k_is); (case c7 => k_is); (case k7 => k_is)
    (case n8 => k_is); (case l8 => k_is); (case c8 => k_is); (case k8 => k_is)
    (case n9 => k_is); (case l9 => k_is); (case c9 => k_is); (case k9 => k_is)
    (case n10 => k_is); (case l10 => k_is); (case c10 => k_is); (case k10 => k_is)
    (case n11 => k_is); (case l11 => k_is); (case c11 => k_is); (case k11 => k_is)
    (case n12 => k_is); (case l12 => k_is); (case c12 => k_is); (case k12 => k_is)
    (case n13 => k_is); (case l13 => k_is); (case c13 => k_is); (case k13 => k_is)
    (case z0 => k_is)
    (case z1 => k_is)
    (case z2 => k_is)
    (case z3 => k_is)
    (case z4 => k_is)
    (case z5 => k_is)
    (case z6 => k_is)
    (case z7 => k_is)
    (case z8 => k_is)
    (case z9 => k_is)
    (case z10 => k_is)
    (case z11 => k_is)
    (case z12 => k_is)
