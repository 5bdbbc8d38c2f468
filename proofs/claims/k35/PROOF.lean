import PyProof.Rows.All
import Wide.All
import OpenK.AllK
import Wide.FinOn
import HandS.ForMost
import HandS.ForExc
import HandS.ExcInit
import HandS.Lambda
import HandS.TryOnly
import HandS.Flow
import HandS.Style
import HandS.Deep
import HandS.IsInst
import HandS.TupAny
import HandS.TupMul
import HandS.Walk
import HandS.Conv
import HandS.Strs
import HandS.StrMore
import HandS.Replace
import HandS.Defaults
import HandS.CallRecv
import HandS.HeadWalk
import HandS.HeadHook4
import HandS.Head2
import HandS.ExcField
import HandS.WideMore
import KE.DataEq
import HandS.CallSlots
import KE.GoesEnum
import PyProof.ListStr
import PySem.Challenge.RW_ferriedover_k35_whole_questions_and_thei
set_option Elab.async false
set_option linter.all false
set_option maxRecDepth 100000
set_option maxHeartbeats 0
/-! The machine: a small functional reading of the Python that the laws use. Values with pure tuples, a heap of lists, dicts and instances, an own syntax that knows its source. -/
namespace Mx
open PySem

/-- the longest line that is reckoned with -/
def SZ : Nat := 16777216
/-- turns of a while -/
def WF : Nat := 1000000

/-! ### values, objects, ends -/
inductive D where
  | non | bl (b : Bool) | int (i : Int) | str (x : List Nat) | tup (xs : List D) | ref (l : Nat)
  deriving Inhabited
mutual
def D.decEq : (a b : D) → Decidable (a = b)
  | .non, .non => .isTrue rfl
  | .bl a, .bl b => if h : a = b then .isTrue (by rw [h]) else .isFalse (by intro e; cases e; exact h rfl)
  | .int a, .int b => if h : a = b then .isTrue (by rw [h]) else .isFalse (by intro e; cases e; exact h rfl)
  | .str a, .str b => if h : a = b then .isTrue (by rw [h]) else .isFalse (by intro e; cases e; exact h rfl)
  | .ref a, .ref b => if h : a = b then .isTrue (by rw [h]) else .isFalse (by intro e; cases e; exact h rfl)
  | .tup a, .tup b => match D.decEqs a b with
    | .isTrue h => .isTrue (by rw [h])
    | .isFalse h => .isFalse (by intro e; cases e; exact h rfl)
  | .non, .bl _ | .non, .int _ | .non, .str _ | .non, .tup _ | .non, .ref _
  | .bl _, .non | .bl _, .int _ | .bl _, .str _ | .bl _, .tup _ | .bl _, .ref _
  | .int _, .non | .int _, .bl _ | .int _, .str _ | .int _, .tup _ | .int _, .ref _
  | .str _, .non | .str _, .bl _ | .str _, .int _ | .str _, .tup _ | .str _, .ref _
  | .tup _, .non | .tup _, .bl _ | .tup _, .int _ | .tup _, .str _ | .tup _, .ref _
  | .ref _, .non | .ref _, .bl _ | .ref _, .int _ | .ref _, .str _ | .ref _, .tup _ => .isFalse (by intro e; cases e)
def D.decEqs : (a b : List D) → Decidable (a = b)
  | [], [] => .isTrue rfl
  | a :: r, b :: s => match D.decEq a b with
    | .isTrue h => match D.decEqs r s with
      | .isTrue h2 => .isTrue (by rw [h, h2])
      | .isFalse h2 => .isFalse (by intro e; cases e; exact h2 rfl)
    | .isFalse h => .isFalse (by intro e; cases e; exact h rfl)
  | [], _ :: _ => .isFalse (by intro e; cases e)
  | _ :: _, [] => .isFalse (by intro e; cases e)
end
instance : DecidableEq D := D.decEq
/-- what stands at a place: a list, a list that is only read, an instance of the class c, a dict -/
inductive O where
  | lst (xs : List D) | frz (xs : List D) | ins (c : Nat) (fs : List (Nat × D)) | dic (kvs : List (D × D))
  deriving DecidableEq, Inhabited
abbrev AH := List O
abbrev Fs := List (Nat × D)
inductive Rs (α : Type) where
  | ok (a : α) (h : AH)
  | ex (c : Nat) (fs : Fs) (h : AH)
  | no
def Rs.bnd {α β : Type} (r : Rs α) (f : α → AH → Rs β) : Rs β := match r with
  | .ok a h => f a h
  | .ex c fs h => .ex c fs h
  | .no => .no
@[simp] theorem bnd_ok {α β : Type} (a : α) (h : AH) (f : α → AH → Rs β) : (Rs.ok a h).bnd f = f a h := rfl
@[simp] theorem bnd_ex {α β : Type} (c : Nat) (fs : Fs) (h : AH) (f : α → AH → Rs β) : (Rs.ex c fs h : Rs α).bnd f = .ex c fs h := rfl
@[simp] theorem bnd_no {α β : Type} (f : α → AH → Rs β) : (Rs.no : Rs α).bnd f = .no := rfl
def optR {α : Type} (o : Option α) (h : AH) : Rs α := match o with
  | some a => .ok a h
  | none => .no
@[simp] theorem optR_some {α : Type} (a : α) (h : AH) : optR (some a) h = .ok a h := rfl
@[simp] theorem optR_none {α : Type} (h : AH) : optR (none : Option α) h = .no := rfl
/-- slots -/
abbrev Sl := List (Option D)
def sget : Sl → Nat → Option D
  | [], _ => none
  | a :: _, 0 => a
  | _ :: r, n + 1 => sget r n
abbrev M (α : Type) := Sl → AH → Rs α

/-! ### equality, order, membership of values without places -/
mutual
def eqd : D → D → Bool
  | .non, .non => true
  | .bl a, .bl b => a == b
  | .bl a, .int j => decide ((if a = true then 1 else 0 : Int) = j)
  | .int i, .bl b => decide (i = (if b = true then 1 else 0 : Int))
  | .int a, .int b => decide (a = b)
  | .str a, .str b => decide (a = b)
  | .tup a, .tup b => eqds a b
  | _, _ => false
def eqds : List D → List D → Bool
  | [], [] => true
  | a :: r, b :: s => eqd a b && eqds r s
  | _, _ => false
end
mutual
/-- how deep; none: a place stands in it -/
def dep : D → Option Nat
  | .tup xs => (deps xs).map (· + 1)
  | .ref _ => none
  | _ => some 0
def deps : List D → Option Nat
  | [] => some 0
  | x :: xs => match dep x, deps xs with
    | some a, some b => some (max a b)
    | _, _ => none
end
/-- a list at a place -/
def lstAt (h : AH) (l : Nat) : Option (List D) := match h[l]? with
  | some (.lst xs) => some xs
  | some (.frz xs) => some xs
  | _ => none
/-- a value as it is compared: a list by its items -/
inductive C where | d (x : D) | l (xs : List D)
def cOf (h : AH) : D → Option C
  | .ref l => (lstAt h l).map .l
  | x => some (.d x)
def eqc : C → C → Option Bool
  | .d x, .d y => match dep x, dep y with
    | some a, some b => if min a b ≤ 60 then some (eqd x y) else none
    | _, _ => none
  | .l xs, .l ys => match deps xs, deps ys with
    | some a, some b => if min a b ≤ 60 then some (eqds xs ys) else none
    | _, _ => none
  | .d x, .l ys => match dep x, deps ys with
    | some a, some b => if min a b ≤ 60 then some false else none
    | _, _ => none
  | .l xs, .d y => match deps xs, dep y with
    | some a, some b => if min a b ≤ 60 then some false else none
    | _, _ => none
def eqh (h : AH) (x y : D) : Option Bool := match cOf h x, cOf h y with
  | some a, some b => eqc a b
  | _, _ => none
/-- x in ys -/
def anyEq (x : D) (ys : List D) : Option Bool := match dep x, deps ys with
  | some a, some b => if min a b ≤ 60 then some (ys.any fun y => eqd y x) else none
  | _, _ => none
def inh (h : AH) (x y : D) : Option Bool := match y with
  | .str b => match x with
    | .str [c] => some (decide (c ∈ b))
    | _ => none
  | .tup ys => anyEq x ys
  | .ref l => match h[l]? with
    | some (.lst ys) => anyEq x ys
    | some (.frz ys) => anyEq x ys
    | some (.dic kvs) => match dep x with
      | some a => if a ≤ 8 then some (kvs.any fun kv => eqd kv.1 x) else none
      | none => none
    | _ => none
  | _ => none
/-- whether a value is taken for true -/
def tru (h : AH) : D → Option Bool
  | .non => some false
  | .bl b => some b
  | .int i => some (i != 0)
  | .str x => if x.length ≤ SZ then some (!x.isEmpty) else none
  | .tup xs => some (!xs.isEmpty)
  | .ref l => match h[l]? with
    | some (.lst xs) => some (!xs.isEmpty)
    | some (.frz xs) => some (!xs.isEmpty)
    | some (.dic kvs) => some (!kvs.isEmpty)
    | _ => none

/-! ### operators -/
inductive BO where | add | sub | mul | fdiv | mod | pow
  deriving DecidableEq
def BO.op : BO → Operator
  | .add => .Add | .sub => .Sub | .mul => .Mult | .fdiv => .FloorDiv | .mod => .Mod | .pow => .Pow
inductive CO where | eq | ne | lt | le | gt | ge | inn | nin | is | isn
  deriving DecidableEq
def CO.op : CO → CmpOp
  | .eq => .Eq | .ne => .NotEq | .lt => .Lt | .le => .LtE | .gt => .Gt | .ge => .GtE | .inn => .In | .nin => .NotIn | .is => .Is | .isn => .IsNot
def rep {α : Type} (xs : List α) : Nat → List α
  | 0 => []
  | n + 1 => xs ++ rep xs n
def alloc (o : O) (h : AH) : Rs D := .ok (.ref h.length) (h ++ [o])
def binop (o : BO) (x y : D) (h : AH) : Rs D := match o, x, y with
  | .add, .int i, .int j => .ok (.int (i + j)) h
  | .add, .str a, .str b => if a.length + b.length ≤ SZ then .ok (.str (a ++ b)) h else .no
  | .add, .tup a, .tup b => if a.length + b.length ≤ SZ then .ok (.tup (a ++ b)) h else .no
  | .add, .ref a, .ref b => match h[a]?, h[b]? with
    | some (.lst xs), some (.lst ys) => if xs.length + ys.length ≤ SZ then alloc (.lst (xs ++ ys)) h else .no
    | _, _ => .no
  | .sub, .int i, .int j => .ok (.int (i - j)) h
  | .mul, .int i, .int j => if (-(2 ^ 64) < i ∧ i < 2 ^ 64) ∨ (-(2 ^ 64) < j ∧ j < 2 ^ 64) then .ok (.int (i * j)) h else .no
  | .mul, .str a, .int j => if 0 ≤ j ∧ j ≤ 1000 ∧ a.length ≤ 1000 then .ok (.str (rep a j.toNat)) h else .no
  | .mul, .tup a, .int j => if 2 ≤ j ∧ j ≤ 1000 ∧ a.length ≤ 1000 ∧ a.isEmpty = false then .ok (.tup (rep a j.toNat)) h else .no
  | .mul, .ref a, .int j => match h[a]? with
    | some (.lst xs) => if 0 ≤ j ∧ j ≤ 1000 ∧ xs.length ≤ 1000 then alloc (.lst (rep xs j.toNat)) h else .no
    | _ => .no
  | .fdiv, .int i, .int j => if 0 < j ∧ j < 1073741824 then .ok (.int (i / j)) h else .no
  | .mod, .int i, .int j => if 0 < j then .ok (.int (i % j)) h else .no
  | .pow, .int i, .int j => if 0 ≤ j ∧ j ≤ 1000000 ∧ i.natAbs < 2 ^ 64 then .ok (.int (i ^ j.toNat)) h else .no
  | _, _, _ => .no
def cmpop (o : CO) (x y : D) (h : AH) : Option Bool := match o with
  | .eq => eqh h x y
  | .ne => (eqh h x y).map (!·)
  | .inn => inh h x y
  | .nin => (inh h x y).map (!·)
  | .is => match x, y with
    | .bl a, .bl b => some (decide (a = b))
    | x, .non => some (decide (x = .non))
    | _, _ => none
  | .isn => match x, y with
    | .bl a, .bl b => some (!decide (a = b))
    | x, .non => some (!decide (x = .non))
    | _, _ => none
  | .lt => match x, y with
    | .int i, .int j => some (decide (i < j))
    | _, _ => none
  | .le => match x, y with
    | .int i, .int j => some (decide (i ≤ j))
    | _, _ => none
  | .gt => match x, y with
    | .int i, .int j => some (decide (j < i))
    | _, _ => none
  | .ge => match x, y with
    | .int i, .int j => some (decide (j ≤ i))
    | _, _ => none
/-- the place that an index names -/
def ixn (n : Nat) (i : Int) : Option Nat := if 0 ≤ i then (if i < n then some i.toNat else none) else if -(n : Int) ≤ i then some (i + n).toNat else none
def ati {α : Type} (xs : List α) (i : Int) : Option α := (ixn xs.length i).bind fun j => xs[j]?
def ixop (x i : D) (h : AH) : Rs D := match x, i with
  | .str z, .int i => if z.length ≤ SZ then optR ((ati z i).map fun c => .str [c]) h else .no
  | .tup xs, .int i => optR (ati xs i) h
  | .ref l, i => match h[l]? with
    | some (.lst xs) => match i with
      | .int i => optR (ati xs i) h
      | _ => .no
    | some (.frz xs) => match i with
      | .int i => optR (ati xs i) h
      | _ => .no
    | some (.dic kvs) => match dep i with
      | some a => if a ≤ 8 then optR ((kvs.find? fun kv => eqd kv.1 i).map (·.2)) h else .no
      | none => .no
    | _ => .no
  | _, _ => .no
def six (n d : Nat) : Option Int → Nat
  | none => d
  | some v => if v < 0 then (v + n).toNat else min v.toNat n
def cutd {α : Type} (xs : List α) (lo hi : Option Int) : List α := (xs.drop (six xs.length 0 lo)).take (six xs.length xs.length hi - six xs.length 0 lo)
def slcop (x : D) (lo hi : Option Int) (h : AH) : Rs D := match x with
  | .str z => if z.length ≤ SZ then .ok (.str (cutd z lo hi)) h else .no
  | .tup xs => .ok (.tup (cutd xs lo hi)) h
  | .ref l => match h[l]? with
    | some (.lst xs) => alloc (.lst (cutd xs lo hi)) h
    | _ => .no
  | _ => .no
def revop (x : D) (h : AH) : Rs D := match x with
  | .ref l => match h[l]? with
    | some (.lst xs) => alloc (.lst xs.reverse) h
    | _ => .no
  | _ => .no
def lenop (x : D) (h : AH) : Option Nat := match x with
  | .str z => if z.length ≤ SZ then some z.length else none
  | .tup xs => some xs.length
  | .ref l => match h[l]? with
    | some (.lst xs) => some xs.length
    | some (.frz xs) => some xs.length
    | some (.dic kvs) => some kvs.length
    | _ => none
  | _ => none
/-- fields -/
def fget : Fs → Nat → Option D
  | [], _ => none
  | (i, d) :: r, f => if f = i then some d else fget r f
def fput (f : Nat) (d : D) : Fs → Fs
  | [] => [(f, d)]
  | (i, x) :: r => if f = i then (i, d) :: r else (i, x) :: fput f d r
/-- built-in classes that are asked for -/
inductive Ty where | int | bool | str | tup | lst
  deriving DecidableEq
def isi (t : Ty) (x : D) (h : AH) : Option Bool := match x with
  | .non => some false
  | .bl _ => some (t == .int || t == .bool)
  | .int _ => some (t == .int)
  | .str _ => some (t == .str)
  | .tup _ => some (t == .tup)
  | .ref l => match h[l]? with
    | some (.lst _) => some (t == .lst)
    | some (.frz _) => some (t == .lst)
    | _ => none

/-! ### the syntax, which knows its source -/
/-- methods of built-in types -/
inductive BM where | append | pop0 | index | islower | replace | split | get1
  deriving DecidableEq
/-- calls of one argument -/
inductive B1 where | len | int | str
  deriving DecidableEq
/-- calls of a row -/
inductive BL where | tuple | all | any | sum
  deriving DecidableEq
/-- targets -/
inductive Tg where
  | one (i : Nat) (x : Str) (p : Pos)
  | many (l : List (Nat × Str × Pos)) (p : Pos)
inductive E where
  | var (i : Nat) (x : Str) (p : Pos)
  | cst (d : D) (p : Pos)
  | glo (d : D) (x : Str) (p : Pos)
  | bin (o : BO) (a b : E) (p : Pos)
  | neg (a : E) (p : Pos)
  | not (a : E) (p : Pos)
  | cmp (o : CO) (a b : E) (p : Pos)
  | cmp2 (o o' : CO) (a b c : E) (p : Pos)
  | bo (and : Bool) (a r : E) (p : Pos)
  | ife (c a b : E) (p : Pos)
  | tup (es : E) (p : Pos)
  | newl (l : E)
  | ix (a i : E) (p : Pos)
  | slc (a lo hi : E) (p2 p : Pos)
  | rev (a : E) (p1 p2 p3 p : Pos)
  | att (a : E) (f : Nat) (x : Str) (p : Pos)
  | call (f : Nat) (x : Str) (px : Pos) (es : E) (p : Pos)
  | callk (f : Nat) (x : Str) (px : Pos) (es ks : E) (p : Pos)
  | make (c : Nat) (x : Str) (px : Pos) (es : E) (p : Pos)
  | mth (o : E) (m : Nat) (x : Str) (ap : Pos) (es : E) (p : Pos)
  | b1 (b : B1) (e : E) (px p : Pos)
  | bl (b : BL) (l : E) (px p : Pos)
  | isi (e : E) (t : Ty) (px pt p : Pos)
  | join (s l : E) (ap p : Pos)
  | ext (o l : E) (ap p : Pos)
  | bm (m : BM) (o es : E) (ap p : Pos)
  | isnil (ne : Bool) (l : E) (p2 p : Pos)
  | dict (ks : E) (p : Pos)
  | refd (c f : Nat) (x : Str) (px : Pos) (sc : Scope) (b : E) (pl p : Pos)
  -- rows of expressions
  | anil
  | acons (a r : E)
  | knil
  | kcons (x : Str) (e : E) (p : Pos) (r : E)
  | onone
  | osome (e : E)
  -- rows by their items
  | ldisp (es : E) (p : Pos)
  | lval (e : E)
  | lref (e : E)
  | llist (e : E) (px p : Pos)
  | lsrt (l : E) (px p : Pos)
  | lsrs (l : E) (px p2 px2 p : Pos)
  | lc (elt : E) (tg : Tg) (it cond : E) (own : List (Str × Nat)) (sc : Scope) (p : Pos)
  -- what is walked
  | iseq (e : E)
  | irng1 (e : E) (px p : Pos)
  | irng2 (a b : E) (px p : Pos)
  | ienum (e : E) (px p : Pos)

def dC : D → Const
  | .bl b => .bool b
  | .int i => .int i
  | .str x => .str ⟨x.toArray⟩
  | _ => .none
def Ty.nm : Ty → Str
  | .int => "int" | .bool => "bool" | .str => "str" | .tup => "tuple" | .lst => "list"
def B1.nm : B1 → Str
  | .len => "len" | .int => "int" | .str => "str"
def BL.nm : BL → Str
  | .tuple => "tuple" | .all => "all" | .any => "any" | .sum => "sum"
def BM.nm : BM → Str
  | .append => "append" | .pop0 => "pop" | .index => "index" | .islower => "islower" | .replace => "replace" | .split => "split" | .get1 => "get"
def Tg.src : Tg → Expr
  | .one _ x p => .Name x p
  | .many l p => .Tuple (l.map fun t => .Name t.2.1 t.2.2) 0 p
def noArgs : Arguments := { posonlyargs := [], args := [], vararg := none, kwonlyargs := [], kw_defaults := [], kwarg := none, defaults := [] }
def nl (b : Bool) : CmpOp := if b = true then .NotEq else .Eq
mutual
def E.src : E → Expr
  | .var _ x p => .Name x p
  | .cst d p => .Constant (dC d) 0 p
  | .glo _ x p => .Name x p
  | .bin o a b p => .BinOp a.src o.op b.src p
  | .neg a p => .UnaryOp .USub a.src p
  | .not a p => .UnaryOp .Not a.src p
  | .cmp o a b p => .Compare a.src [o.op] [b.src] p
  | .cmp2 o o' a b c p => .Compare a.src [o.op, o'.op] [b.src, c.src] p
  | .bo and a r p => .BoolOp (if and = true then .And else .Or) (a.src :: r.srcs) p
  | .ife c a b p => .IfExp c.src a.src b.src p
  | .tup es p => .Tuple es.srcs 0 p
  | .newl l => l.src
  | .ix a i p => .Subscript a.src i.src p
  | .slc a lo hi p2 p => .Subscript a.src (.Slice lo.srco hi.srco none p2) p
  | .rev a p1 p2 p3 p => .Subscript a.src (.Slice none none (some (.UnaryOp .USub (.Constant (.int 1) 0 p1) p2)) p3) p
  | .att a _ x p => .Attribute a.src x p
  | .call _ x px es p => .Call (.Name x px) es.srcs [] p
  | .callk _ x px es ks p => .Call (.Name x px) es.srcs ks.srck p
  | .make _ x px es p => .Call (.Name x px) es.srcs [] p
  | .mth o _ x ap es p => .Call (.Attribute o.src x ap) es.srcs [] p
  | .b1 b e px p => .Call (.Name b.nm px) [e.src] [] p
  | .bl b l px p => .Call (.Name b.nm px) [l.src] [] p
  | .isi e t px pt p => .Call (.Name "isinstance" px) [e.src, .Name t.nm pt] [] p
  | .join s l ap p => .Call (.Attribute s.src "join" ap) [l.src] [] p
  | .ext o l ap p => .Call (.Attribute o.src "extend" ap) [l.src] [] p
  | .bm m o es ap p => .Call (.Attribute o.src m.nm ap) es.srcs [] p
  | .isnil ne l p2 p => .Compare l.src [nl ne] [.List [] p2] p
  | .dict ks p => .Dict [] [] p
  | .refd _ _ x px sc b pl p => .Call (.Name x px) [.Lambda noArgs b.src sc pl] [] p
  | .ldisp es p => .List es.srcs p
  | .lval e => e.src
  | .lref e => e.src
  | .llist e px p => .Call (.Name "list" px) [e.src] [] p
  | .lsrt l px p => .Call (.Name "sorted" px) [l.src] [] p
  | .lsrs l px p2 px2 p => .Call (.Name "sorted" px) [.Call (.Name "set" px2) [l.src] [] p2] [] p
  | .lc elt tg it cond _ sc p => .ListComp elt.src [⟨tg.src, it.src, cond.srco.toList, 0⟩] sc p
  | .iseq e => e.src
  | .irng1 e px p => .Call (.Name "range" px) [e.src] [] p
  | .irng2 a b px p => .Call (.Name "range" px) [a.src, b.src] [] p
  | .ienum e px p => .Call (.Name "enumerate" px) [e.src] [] p
  | _ => .Name "" ⟨0, 0, 0, 0⟩
termination_by structural x => x
def E.srcs : E → List Expr
  | .acons a r => a.src :: r.srcs
  | _ => []
termination_by structural x => x
def E.srco : E → Option Expr
  | .osome e => some e.src
  | _ => none
termination_by structural x => x
def E.srck : E → List Keyword
  | .kcons x e p r => ⟨some x, e.src, p⟩ :: r.srck
  | _ => []
termination_by structural x => x
end

/-! ### what an expression is worth -/
def strI (i : Int) : List Nat := (Str.ofString (toString i)).cps.toList
def b1op (b : B1) (x : D) (h : AH) : Rs D := match b with
  | .len => optR ((lenop x h).map fun n => .int n) h
  | .int => match x with
    | .int i => .ok (.int i) h
    | .bl k => .ok (.int (if k = true then 1 else 0)) h
    | .str z => if z.length ≤ 640 then optR ((intText? ⟨z.toArray⟩).map .int) h else .no
    | _ => .no
  | .str => match x with
    | .int i => if i.natAbs.log2 < 1920 then .ok (.str (strI i)) h else .no
    | _ => .no
def bls : List D → Option (List Bool)
  | [] => some []
  | .bl b :: r => (bls r).map (b :: ·)
  | _ => none
def intsD : List D → Option (List Int)
  | [] => some []
  | .int i :: r => (intsD r).map (i :: ·)
  | _ => none
def strsD : List D → Option (List (List Nat))
  | [] => some []
  | .str x :: r => (strsD r).map (x :: ·)
  | _ => none
def blop (b : BL) (xs : List D) : Option D := match b with
  | .tuple => some (.tup xs)
  | .all => (bls xs).map fun bs => .bl (bs.all id)
  | .any => (bls xs).map fun bs => .bl (bs.any id)
  | .sum => (intsD xs).map fun ns => .int ns.sum
def joinT (sep : List Nat) : List (List Nat) → List Nat
  | [] => []
  | [x] => x
  | x :: y :: r => x ++ sep ++ joinT sep (y :: r)
def lens : List (List Nat) → Nat
  | [] => 0
  | x :: r => x.length + lens r
def chars (x : List Nat) : List D := x.map fun c => .str [c]
def put (h : AH) (l : Nat) (o : O) : AH := h.set l o
def lowerT (x : List Nat) : Bool := x.any (fun c => decide (97 ≤ c ∧ c ≤ 122)) && x.all fun c => decide (c < 128) && !decide (65 ≤ c ∧ c ≤ 90)
def replT (a : Nat) (b : List Nat) (x : List Nat) : List Nat := x.flatMap fun c => if c = a then b else [c]
def splitT (a : Nat) : List Nat → List (List Nat)
  | [] => [[]]
  | c :: r => if c = a then [] :: splitT a r else match splitT a r with
    | [] => [[c]]
    | w :: ws => (c :: w) :: ws
def bmop (m : BM) (x : D) (as : List D) (h : AH) : Rs D := match m, x, as with
  | .append, .ref l, [y] => match h[l]? with
    | some (.lst xs) => if xs.length < SZ then .ok .non (put h l (.lst (xs ++ [y]))) else .no
    | _ => .no
  | .pop0, .ref l, [] => match h[l]? with
    | some (.lst xs) => match xs.getLast? with
      | some y => .ok y (put h l (.lst xs.dropLast))
      | none => .no
    | _ => .no
  | .index, .str z, [.str [c]] => if c ∈ z ∧ z.length ≤ SZ then .ok (.int (z.idxOf c)) h else .no
  | .islower, .str z, [] => if z.length ≤ 1000 ∧ z.all (fun c => decide (c < 128)) = true then .ok (.bl (lowerT z)) h else .no
  | .replace, .str z, [.str [a], .str b] => if z.length ≤ 1000 ∧ b.length ≤ 1000 then .ok (.str (replT a b z)) h else .no
  | .split, .str z, [.str [a]] => if z.length + 2 ≤ SZ then alloc (.lst ((splitT a z).map .str)) h else .no
  | _, _, _ => .no
def lstQ (h : AH) : D → Bool
  | .ref l => match h[l]? with
    | some (.lst _) => true
    | _ => false
  | _ => false
def strQ : D → Bool
  | .str _ => true
  | _ => false
def dicQ (h : AH) : D → Bool
  | .ref l => match h[l]? with
    | some (.dic _) => true
    | _ => false
  | _ => false
/-- a method's own kind, as it is looked up -/
def bmty (m : BM) (h : AH) (x : D) : Bool := match m with
  | .append => lstQ h x
  | .pop0 => lstQ h x
  | .get1 => dicQ h x
  | _ => strQ x
def extop (x : D) (ys : List D) (h : AH) : Rs D := match x with
  | .ref l => match h[l]? with
    | some (.lst xs) => if xs.length + ys.length ≤ SZ then .ok .non (put h l (.lst (xs ++ ys))) else .no
    | _ => .no
  | _ => .no
def joinop (x : D) (xs : List D) (h : AH) : Rs D := match x with
  | .str z => match strsD xs with
    | some ys => if lens ys + z.length * ys.length ≤ SZ then .ok (.str (joinT z ys)) h else .no
    | none => .no
  | _ => .no
/-- sorted rows: of intsD, of texts (the set of them) -/
def insI (i : Int) : List Int → List Int
  | [] => [i]
  | j :: r => if i ≤ j then i :: j :: r else j :: insI i r
def sortI : List Int → List Int
  | [] => []
  | i :: r => insI i (sortI r)
def insN (i : Nat) : List Nat → List Nat
  | [] => [i]
  | j :: r => if i ≤ j then i :: j :: r else j :: insN i r
def sortN : List Nat → List Nat
  | [] => []
  | i :: r => insN i (sortN r)
def sgl : List D → Option (List Nat)
  | [] => some []
  | .str [c] :: r => (sgl r).map (c :: ·)
  | _ => none
def srtop (xs : List D) : Option (List D) := match intsD xs with
  | some ns => if ns.length < 64 then some ((sortI ns).map .int) else none
  | none => none
def srsop (xs : List D) : Option (List D) := match intsD xs with
  | some ns => if ns.length < 64 then some ((sortI ns.eraseDups).map .int) else none
  | none => match sgl xs with
    | some cs => if cs.length < 64 then some ((sortN cs.eraseDups).map fun c => .str [c]) else none
    | none => none
def listop (x : D) (h : AH) : Option (List D) := match x with
  | .tup xs => some xs
  | .str z => if z.length ≤ SZ then some (chars z) else none
  | .ref l => match h[l]? with
    | some (.lst xs) => some xs
    | some (.dic kvs) => some (kvs.map (·.1))
    | _ => none
  | _ => none
def valop (x : D) (h : AH) : Option (List D) := match x with
  | .tup xs => some xs
  | .ref l => lstAt h l
  | _ => none
def refop (x : D) (h : AH) : Option (List D) := match x with
  | .ref l => lstAt h l
  | _ => none
/-- a walk: its items, the list that must stand meanwhile -/
abbrev Wk := List D × Option (Nat × List D)
def grd (g : Option (Nat × List D)) (h : AH) : Bool := match g with
  | none => true
  | some (l, xs) => decide (lstAt h l = some xs)
def seqop (x : D) (h : AH) : Option Wk := match x with
  | .tup xs => some (xs, none)
  | .str z => some (chars z, none)
  | .ref l => (lstAt h l).map fun xs => (xs, some (l, xs))
  | _ => none
def enumF : Nat → List D → List D
  | _, [] => []
  | i, x :: r => .tup [.int i, x] :: enumF (i + 1) r
def rngF (lo : Int) : Nat → List D
  | 0 => []
  | n + 1 => .int lo :: rngF (lo + 1) n
def smallI (i : Int) : Bool := decide (-(2 ^ 62) ≤ i ∧ i < 2 ^ 62)
def rng1 (x : D) : Option Wk := match x with
  | .int j => if smallI j = true then some (rngF 0 j.toNat, none) else none
  | _ => none
def rng2 (x y : D) : Option Wk := match x, y with
  | .int i, .int j => if (smallI i && smallI j) = true then some (rngF i (j - i).toNat, none) else none
  | _, _ => none
def asg1 (s : Sl) (i : Nat) (d : D) : Sl := s.set i (some d)
def asgs (s : Sl) : List (Nat × Str × Pos) → List D → Option Sl
  | [], [] => some s
  | t :: l, d :: ds => asgs (asg1 s t.1 d) l ds
  | _, _ => none
def Tg.set (t : Tg) (d : D) (s : Sl) : Option Sl := match t with
  | .one i _ _ => some (asg1 s i d)
  | .many l _ => match d with
    | .tup ds => asgs s l ds
    | _ => none
def wip (s : Sl) : List (Str × Nat) → Sl
  | [] => s
  | v :: vs => (wip s vs).set v.2 none
def lcM (t : D → Sl → Option Sl) (c : M Bool) (e : M D) (g : Option (Nat × List D)) (s : Sl) : List D → AH → Rs (List D)
  | [], h => if grd g h = true then .ok [] h else .no
  | x :: xs, h => if grd g h = true then match t x s with
    | none => .no
    | some s1 => match c s1 h with
      | .ok true h1 => match e s1 h1 with
        | .ok y h2 => match lcM t c e g s xs h2 with
          | .ok ys h3 => .ok (y :: ys) h3
          | _ => .no
        | _ => .no
      | .ok false h1 => lcM t c e g s xs h1
      | _ => .no
    else .no
/-- what a run knows: calls of defs, of classes' makers, which def a method is, a class's maker -/
structure Cf where
  cf : Nat → List D → AH → Rs D
  mf : Nat → List D → AH → Rs D
  md : Nat → Nat → Option Nat
  ini : Nat → Option Nat
def truR (h : AH) (x : D) : Rs Bool := optR (tru h x) h
def cmpR (o : CO) (x y : D) (h : AH) : Rs D := optR ((cmpop o x y h).map .bl) h
mutual
def ev (F : Cf) : E → M D
  | .var i _ _ => fun s h => optR (sget s i) h
  | .cst d _ => fun _ h => .ok d h
  | .glo d _ _ => fun _ h => .ok d h
  | .bin o a b _ => fun s h => (ev F a s h).bnd fun x h1 => (ev F b s h1).bnd fun y h2 => binop o x y h2
  | .neg a _ => fun s h => (ev F a s h).bnd fun x h1 => match x with
    | .int i => .ok (.int (-i)) h1
    | _ => .no
  | .not a _ => fun s h => (ev F a s h).bnd fun x h1 => (truR h1 x).bnd fun b h2 => .ok (.bl (!b)) h2
  | .cmp o a b _ => fun s h => (ev F a s h).bnd fun x h1 => (ev F b s h1).bnd fun y h2 => cmpR o x y h2
  | .cmp2 o o' a b c _ => fun s h => (ev F a s h).bnd fun x h1 => (ev F b s h1).bnd fun y h2 => (optR (cmpop o x y h2) h2).bnd fun k h3 => if k = true then (ev F c s h3).bnd fun z h4 => cmpR o' y z h4 else .ok (.bl false) h3
  | .bo and a r _ => fun s h => (ev F a s h).bnd fun x h1 => evb F and r x s h1
  | .ife c a b _ => fun s h => (ev F c s h).bnd fun x h1 => (truR h1 x).bnd fun k h2 => if k = true then ev F a s h2 else ev F b s h2
  | .tup es _ => fun s h => (evs F es s h).bnd fun xs h1 => if xs.length ≤ SZ then .ok (.tup xs) h1 else .no
  | .newl l => fun s h => (evl F l s h).bnd fun xs h1 => if xs.length ≤ SZ then alloc (.lst xs) h1 else .no
  | .ix a i _ => fun s h => (ev F a s h).bnd fun x h1 => (ev F i s h1).bnd fun y h2 => ixop x y h2
  | .slc a lo hi _ _ => fun s h => (ev F a s h).bnd fun x h1 => (evo F lo s h1).bnd fun l h2 => (evo F hi s h2).bnd fun u h3 => slcop x l u h3
  | .rev a _ _ _ _ => fun s h => (ev F a s h).bnd fun x h1 => revop x h1
  | .att a f _ _ => fun s h => (ev F a s h).bnd fun x h1 => match x with
    | .ref l => match h1[l]? with
      | some (.ins _ fs) => optR (fget fs f) h1
      | _ => .no
    | _ => .no
  | .call f _ _ es _ => fun s h => (evs F es s h).bnd fun xs h1 => F.cf f xs h1
  | .callk f _ _ es ks _ => fun s h => (evs F es s h).bnd fun xs h1 => (evs F ks s h1).bnd fun ys h2 => F.cf f (xs ++ ys) h2
  | .make c _ _ es _ => fun s h => (evs F es s h).bnd fun xs h1 => match F.ini c with
    | some f => (F.mf f (.ref h1.length :: xs) (h1 ++ [.ins c []])).bnd fun d h2 => match d with
      | .non => .ok (.ref h1.length) h2
      | _ => .no
    | none => .no
  | .mth o m _ _ es _ => fun s h => (ev F o s h).bnd fun x h1 => match x with
    | .ref l => match h1[l]? with
      | some (.ins c _) => match F.md c m with
        | some f => (evs F es s h1).bnd fun xs h2 => F.cf f (.ref l :: xs) h2
        | none => .no
      | _ => .no
    | _ => .no
  | .b1 b e _ _ => fun s h => (ev F e s h).bnd fun x h1 => b1op b x h1
  | .bl b l _ _ => fun s h => (evl F l s h).bnd fun xs h1 => optR (blop b xs) h1
  | .isi e t _ _ _ => fun s h => (ev F e s h).bnd fun x h1 => optR ((isi t x h1).map .bl) h1
  | .join e l _ _ => fun s h => (ev F e s h).bnd fun x h1 => if strQ x = true then (evl F l s h1).bnd fun xs h2 => joinop x xs h2 else .no
  | .ext o l _ _ => fun s h => (ev F o s h).bnd fun x h1 => if lstQ h1 x = true then (evl F l s h1).bnd fun ys h2 => extop x ys h2 else .no
  | .bm m o es _ _ => fun s h => (ev F o s h).bnd fun x h1 => if bmty m h1 x = true then (evs F es s h1).bnd fun xs h2 => bmop m x xs h2 else .no
  | .isnil ne l _ _ => fun s h => (evl F l s h).bnd fun xs h1 => .ok (.bl (if ne = true then !xs.isEmpty else xs.isEmpty)) h1
  | .dict _ _ => fun _ h => alloc (.dic []) h
  | .refd c f _ _ _ b _ _ => fun s h => match ev F b s h with
    | .ok _ h1 => .ok (.str []) h1
    | .ex c' fs h1 => if c' = c then optR (fget fs f) h1 else .no
    | .no => .no
  | _ => fun _ _ => .no
termination_by structural x => x
def evs (F : Cf) : E → M (List D)
  | .anil => fun _ h => .ok [] h
  | .acons a r => fun s h => (ev F a s h).bnd fun x h1 => (evs F r s h1).bnd fun xs h2 => .ok (x :: xs) h2
  | .knil => fun _ h => .ok [] h
  | .kcons _ e _ r => fun s h => (ev F e s h).bnd fun x h1 => (evs F r s h1).bnd fun xs h2 => .ok (x :: xs) h2
  | _ => fun _ _ => .no
termination_by structural x => x
def evb (F : Cf) (and : Bool) : E → D → M D
  | .anil => fun x _ h => .ok x h
  | .acons a r => fun x s h => (truR h x).bnd fun k h1 => if k = and then (ev F a s h1).bnd fun y h2 => evb F and r y s h2 else .ok x h1
  | _ => fun _ _ _ => .no
termination_by structural x => x
def evo (F : Cf) : E → M (Option Int)
  | .onone => fun _ h => .ok none h
  | .osome e => fun s h => (ev F e s h).bnd fun x h1 => match x with
    | .int i => .ok (some i) h1
    | _ => .no
  | _ => fun _ _ => .no
termination_by structural x => x
def evc (F : Cf) : E → M Bool
  | .onone => fun _ h => .ok true h
  | .osome e => fun s h => (ev F e s h).bnd fun x h1 => truR h1 x
  | _ => fun _ _ => .no
termination_by structural x => x
def evl (F : Cf) : E → M (List D)
  | .ldisp es _ => fun s h => (evs F es s h).bnd fun xs h1 => if xs.length ≤ SZ then .ok xs h1 else .no
  | .lval e => fun s h => (ev F e s h).bnd fun x h1 => optR (valop x h1) h1
  | .lref e => fun s h => (ev F e s h).bnd fun x h1 => optR (refop x h1) h1
  | .llist e _ _ => fun s h => (ev F e s h).bnd fun x h1 => optR (listop x h1) h1
  | .lsrt l _ _ => fun s h => (evl F l s h).bnd fun xs h1 => optR (srtop xs) h1
  | .lsrs l _ _ _ _ => fun s h => (evl F l s h).bnd fun xs h1 => optR (srsop xs) h1
  | .lc e tg it c own _ _ => fun s h => (evi F it s h).bnd fun w h1 => if w.1.length ≤ SZ then lcM tg.set (evc F c) (ev F e) w.2 (wip s own) w.1 h1 else .no
  | _ => fun _ _ => .no
termination_by structural x => x
def evi (F : Cf) : E → M Wk
  | .iseq e => fun s h => (ev F e s h).bnd fun x h1 => optR (seqop x h1) h1
  | .irng1 e _ _ => fun s h => (ev F e s h).bnd fun x h1 => optR (rng1 x) h1
  | .irng2 a b _ _ => fun s h => (ev F a s h).bnd fun x h1 => (ev F b s h1).bnd fun y h2 => optR (rng2 x y) h2
  | .ienum e _ _ => fun s h => (ev F e s h).bnd fun x h1 => optR ((seqop x h1).map fun w => (enumF 0 w.1, w.2)) h1
  | _ => fun _ _ => .no
termination_by structural x => x
end
/-- a test -/
def evt (F : Cf) (e : E) : M Bool := fun s h => (ev F e s h).bnd fun x h1 => truR h1 x

/-! ### statements -/
/-- what an except suite hands back: fields of the error -/
inductive Hr where
  | one (f : Nat) (x : Str) (p1 p2 : Pos)
  | tup (l : List (Nat × Str × Pos × Pos)) (p : Pos)
inductive S where
  | snil
  | scons (a r : S)
  | exp (e : E) (p : Pos)
  | set (i : Nat) (x : Str) (px : Pos) (e : E) (p : Pos)
  | unp (tg : Tg) (e : E) (p : Pos)
  | par (l : List (Nat × Str × Pos)) (pt : Pos) (es : E) (p2 p : Pos)
  | fld (o : E) (f : Nat) (x : Str) (pf : Pos) (e : E) (p : Pos)
  | fau (o : E) (f : Nat) (x : Str) (pf : Pos) (sb : Bool) (e : E) (p : Pos)
  | aug (i : Nat) (x : Str) (px : Pos) (sb : Bool) (e : E) (p : Pos)
  | sub (o i : E) (ps : Pos) (e : E) (p : Pos)
  | ret (e : E) (p : Pos)
  | retn (p : Pos)
  | ife (c : E) (a b : S) (p : Pos)
  | whl (c : E) (b : S) (p : Pos)
  | loop (tg : Tg) (it : E) (b : S) (p : Pos)
  | brk (p : Pos)
  | cnt (p : Pos)
  | pas (p : Pos)
  | rai (c : Nat) (x : Str) (px : Pos) (es : E) (pc p : Pos)
  | tryr (b : S) (c : Nat) (x : Str) (px : Pos) (i : Nat) (n : Str) (hr : Hr) (pr ph p : Pos)

def Hr.src (n : Str) : Hr → Expr
  | .one _ x p1 p2 => .Attribute (.Name n p1) x p2
  | .tup l p => .Tuple (l.map fun t => .Attribute (.Name n t.2.2.1) t.2.1 t.2.2.2) 0 p
def asOp (sb : Bool) : Operator := if sb = true then .Sub else .Add
mutual
def S.src : S → Stmt
  | .exp e p => .Expr e.src p
  | .set _ x px e p => .Assign [.Name x px] e.src p
  | .unp tg e p => .Assign [tg.src] e.src p
  | .par l pt es p2 p => .Assign [(Tg.many l pt).src] (.Tuple es.srcs 0 p2) p
  | .fld o _ x pf e p => .Assign [.Attribute o.src x pf] e.src p
  | .fau o _ x pf sb e p => .AugAssign (.Attribute o.src x pf) (asOp sb) e.src p
  | .aug _ x px sb e p => .AugAssign (.Name x px) (asOp sb) e.src p
  | .sub o i ps e p => .Assign [.Subscript o.src i.src ps] e.src p
  | .ret e p => .Return (some e.src) p
  | .retn p => .Return none p
  | .ife c a b p => .If c.src a.srcs b.srcs p
  | .whl c b p => .While c.src b.srcs [] p
  | .loop tg it b p => .For tg.src it.src b.srcs [] p
  | .brk p => .Break p
  | .cnt p => .Continue p
  | .pas p => .Pass p
  | .rai _ x px es pc p => .Raise (some (.Call (.Name x px) es.srcs [] pc)) none p
  | .tryr b _ x px _ n hr pr ph p => .Try b.srcs [.ExceptHandler (some (.Name x px)) (some n) [.Return (some (hr.src n)) pr] ph] [] [] p
  | _ => .Pass ⟨0, 0, 0, 0⟩
termination_by structural x => x
def S.srcs : S → List Stmt
  | .scons a r => a.src :: r.srcs
  | _ => []
termination_by structural x => x
end
/-- what a statement comes to -/
inductive Fl where
  | nx (s : Sl) | rt (d : D) | bk (s : Sl) | ct (s : Sl)
def Hr.val (fs : Fs) : Hr → Option D
  | .one f _ _ _ => fget fs f
  | .tup l _ => (l.mapM fun t => fget fs t.1).map .tup
def augop (sb : Bool) (x y : D) (h : AH) : Rs D := match x, y with
  | .int i, .int j => .ok (.int (if sb = true then i - j else i + j)) h
  | .str a, .str b => if sb = false ∧ a.length + b.length ≤ SZ then .ok (.str (a ++ b)) h else .no
  | _, _ => .no
def whM (t : M Bool) (b : M Fl) : Nat → M Fl
  | 0 => fun _ _ => .no
  | n + 1 => fun s h => (t s h).bnd fun k h1 => if k = true then (b s h1).bnd fun f h2 => match f with
      | .nx s2 => whM t b n s2 h2
      | .ct s2 => whM t b n s2 h2
      | .bk s2 => .ok (.nx s2) h2
      | .rt d => .ok (.rt d) h2
    else .ok (.nx s) h1
def foM (t : D → Sl → Option Sl) (b : M Fl) (g : Option (Nat × List D)) : List D → M Fl
  | [] => fun s h => if grd g h = true then .ok (.nx s) h else .no
  | x :: xs => fun s h => if grd g h = true then match t x s with
    | none => .no
    | some s1 => (b s1 h).bnd fun f h2 => match f with
      | .nx s2 => foM t b g xs s2 h2
      | .ct s2 => foM t b g xs s2 h2
      | .bk s2 => .ok (.nx s2) h2
      | .rt d => .ok (.rt d) h2
    else .no
/-- an error's fields by its class: the makers' parameters in order -/
def exc (xf : Nat → Option (List Nat)) (c : Nat) (ds : List D) : Option Fs := match xf c with
  | some l => if l.length = ds.length then some (l.zip ds) else none
  | none => none
/-- o[i] = d -/
def setop (o i d : D) (h : AH) : Rs Unit := match o with
  | .ref l => match h[l]? with
    | some (.lst xs) => match i with
      | .int i => match ixn xs.length i with
        | some j => .ok () (put h l (.lst (xs.set j d)))
        | none => .no
      | _ => .no
    | _ => .no
  | _ => .no
def ex (F : Cf) (xf : Nat → Option (List Nat)) : S → M Fl
  | .snil => fun s h => .ok (.nx s) h
  | .scons a r => fun s h => (ex F xf a s h).bnd fun f h1 => match f with
    | .nx s1 => ex F xf r s1 h1
    | f => .ok f h1
  | .exp e _ => fun s h => (ev F e s h).bnd fun _ h1 => .ok (.nx s) h1
  | .set i _ _ e _ => fun s h => (ev F e s h).bnd fun x h1 => .ok (.nx (asg1 s i x)) h1
  | .unp tg e _ => fun s h => (ev F e s h).bnd fun x h1 => match tg.set x s with
    | some s1 => .ok (.nx s1) h1
    | none => .no
  | .par l _ es _ _ => fun s h => (evs F es s h).bnd fun xs h1 => match asgs s l xs with
    | some s1 => .ok (.nx s1) h1
    | none => .no
  | .fld o f _ _ e _ => fun s h => (ev F e s h).bnd fun y h1 => (ev F o s h1).bnd fun x h2 => match x with
    | .ref l => match h2[l]? with
      | some (.ins c fs) => if fs.length < 900 ∧ F.md c f = none then .ok (.nx s) (put h2 l (.ins c (fput f y fs))) else .no
      | _ => .no
    | _ => .no
  | .fau o f _ _ sb e _ => fun s h => (ev F o s h).bnd fun x h1 => match x with
    | .ref l => match h1[l]? with
      | some (.ins c fs) => match fget fs f with
        | some v => (ev F e s h1).bnd fun y h2 => (augop sb v y h2).bnd fun z h3 => match h3[l]? with
          | some (.ins c' fs') => if fs'.length < 900 ∧ c' = c then .ok (.nx s) (put h3 l (.ins c' (fput f z fs'))) else .no
          | _ => .no
        | none => .no
      | _ => .no
    | _ => .no
  | .aug i _ _ sb e _ => fun s h => match sget s i with
    | some v => (ev F e s h).bnd fun y h1 => (augop sb v y h1).bnd fun z h2 => .ok (.nx (asg1 s i z)) h2
    | none => .no
  | .sub o i _ e _ => fun s h => (ev F e s h).bnd fun d h1 => (ev F o s h1).bnd fun x h2 => (ev F i s h2).bnd fun y h3 => (setop x y d h3).bnd fun _ h4 => .ok (.nx s) h4
  | .ret e _ => fun s h => (ev F e s h).bnd fun x h1 => .ok (.rt x) h1
  | .retn _ => fun _ h => .ok (.rt .non) h
  | .ife c a b _ => fun s h => (evt F c s h).bnd fun k h1 => if k = true then ex F xf a s h1 else ex F xf b s h1
  | .whl c b _ => whM (evt F c) (ex F xf b) WF
  | .loop tg it b _ => fun s h => (evi F it s h).bnd fun w h1 => foM tg.set (ex F xf b) w.2 w.1 s h1
  | .brk _ => fun s h => .ok (.bk s) h
  | .cnt _ => fun s h => .ok (.ct s) h
  | .pas _ => fun s h => .ok (.nx s) h
  | .rai c _ _ es _ _ => fun s h => (evs F es s h).bnd fun xs h1 => match exc xf c xs with
    | some fs => .ex c fs h1
    | none => .no
  | .tryr b c _ _ _ _ hr _ _ _ => fun s h => match ex F xf b s h with
    | .ok f h1 => .ok f h1
    | .no => .no
    | .ex c' fs h1 => if (xf c').isSome = true then if c' = c then match hr.val fs with
      | some d => .ok (.rt d) h1
      | none => .no
      else .ex c' fs h1 else .no

/-! ### defs -/
structure Fn where
  np : Nat
  n : Nat
  body : S
/-- a program: its defs, which def a method is, a class's maker, an error's fields -/
structure Pr where
  fn : Nat → Option Fn
  md : Nat → Nat → Option Nat
  ini : Nat → Option Nat
  xf : Nat → Option (List Nat)
def sl0 (fn : Fn) (args : List D) : Sl := args.map some ++ List.replicate (fn.n - args.length) none
def ends (r : Rs Fl) : Rs D := match r with
  | .ok (.nx _) h => .ok .non h
  | .ok (.rt d) h => .ok d h
  | .ex c fs h => .ex c fs h
  | _ => .no
def runF (P : Pr) (F : Cf) (f : Nat) (args : List D) (h : AH) : Rs D := match P.fn f with
  | some fn => if args.length = fn.np ∧ fn.np ≤ fn.n then ends (ex F P.xf fn.body (sl0 fn args) h) else .no
  | none => .no
def noF : Nat → List D → AH → Rs D := fun _ _ _ => .no
/-- calls to a depth: a maker is called one deeper -/
def call (P : Pr) : Nat → Nat → List D → AH → Rs D
  | 0 => noF
  | 1 => runF P ⟨noF, noF, P.md, P.ini⟩
  | k + 2 => runF P ⟨call P (k + 1), call P k, P.md, P.ini⟩
end Mx

/-! The machine, reckoned with. -/
namespace Mx
open PySem
section
variable {h : AH} {l m : Nat} {o o' : O} {i j : Int} {x y : D}
@[simp] theorem binop_addI : binop .add (.int i) (.int j) h = .ok (.int (i + j)) h := rfl
@[simp] theorem binop_addS {a b : List Nat} : binop .add (.str a) (.str b) h = if a.length + b.length ≤ SZ then .ok (.str (a ++ b)) h else .no := rfl
@[simp] theorem binop_addT {a b : List D} : binop .add (.tup a) (.tup b) h = if a.length + b.length ≤ SZ then .ok (.tup (a ++ b)) h else .no := rfl
@[simp] theorem binop_subI : binop .sub (.int i) (.int j) h = .ok (.int (i - j)) h := rfl
@[simp] theorem binop_mulI : binop .mul (.int i) (.int j) h = if (-(2 ^ 64) < i ∧ i < 2 ^ 64) ∨ (-(2 ^ 64) < j ∧ j < 2 ^ 64) then .ok (.int (i * j)) h else .no := rfl
@[simp] theorem binop_mulS {a : List Nat} : binop .mul (.str a) (.int j) h = if 0 ≤ j ∧ j ≤ 1000 ∧ a.length ≤ 1000 then .ok (.str (rep a j.toNat)) h else .no := rfl
@[simp] theorem binop_fdivI : binop .fdiv (.int i) (.int j) h = if 0 < j ∧ j < 1073741824 then .ok (.int (i / j)) h else .no := rfl
@[simp] theorem binop_modI : binop .mod (.int i) (.int j) h = if 0 < j then .ok (.int (i % j)) h else .no := rfl
@[simp] theorem binop_powI : binop .pow (.int i) (.int j) h = if 0 ≤ j ∧ j ≤ 1000000 ∧ i.natAbs < 2 ^ 64 then .ok (.int (i ^ j.toNat)) h else .no := rfl
theorem binop_addL {xs ys : List D} (e1 : h[l]? = some (.lst xs)) (e2 : h[m]? = some (.lst ys)) : binop .add (.ref l) (.ref m) h = if xs.length + ys.length ≤ SZ then alloc (.lst (xs ++ ys)) h else .no := by
  show (match h[l]?, h[m]? with
    | some (.lst xs), some (.lst ys) => if xs.length + ys.length ≤ SZ then alloc (.lst (xs ++ ys)) h else .no
    | _, _ => .no) = _
  rw [e1, e2]
@[simp] theorem cmp_ltI : cmpR .lt (.int i) (.int j) h = .ok (.bl (decide (i < j))) h := rfl
@[simp] theorem cmp_leI : cmpR .le (.int i) (.int j) h = .ok (.bl (decide (i ≤ j))) h := rfl
@[simp] theorem cmp_gtI : cmpR .gt (.int i) (.int j) h = .ok (.bl (decide (j < i))) h := rfl
@[simp] theorem cmp_geI : cmpR .ge (.int i) (.int j) h = .ok (.bl (decide (j ≤ i))) h := rfl
@[simp] theorem cmp_isB {a b : Bool} : cmpR .is (.bl a) (.bl b) h = .ok (.bl (decide (a = b))) h := rfl
@[simp] theorem cmp_isnB {a b : Bool} : cmpR .isn (.bl a) (.bl b) h = .ok (.bl (!decide (a = b))) h := rfl
@[simp] theorem cmp_isN : cmpR .is x .non h = .ok (.bl (decide (x = .non))) h := by cases x <;> rfl
@[simp] theorem cmp_isnN : cmpR .isn x .non h = .ok (.bl (!decide (x = .non))) h := by cases x <;> rfl
/-- a value without places -/
theorem cOf_dep {d : D} {n : Nat} (e : dep d = some n) : cOf h d = some (.d d) := by
  cases d with
  | ref l => cases e
  | _ => rfl
theorem eqh_dep {a b : Nat} (e1 : dep x = some a) (e2 : dep y = some b) (hm : min a b ≤ 60) : eqh h x y = some (eqd x y) := by
  unfold eqh
  rw [cOf_dep e1, cOf_dep e2]
  show (match dep x, dep y with
    | some a, some b => if min a b ≤ 60 then some (eqd x y) else none
    | _, _ => none) = _
  rw [e1, e2]
  exact if_pos hm
theorem dep0 {d : D} (hd : (∀ xs, d ≠ .tup xs) ∧ ∀ l, d ≠ .ref l) : dep d = some 0 := by
  cases d with
  | tup xs => exact absurd rfl (hd.1 xs)
  | ref l => exact absurd rfl (hd.2 l)
  | _ => rfl
@[simp] theorem cmp_eqI : cmpR .eq (.int i) (.int j) h = .ok (.bl (decide (i = j))) h := rfl
@[simp] theorem cmp_neI : cmpR .ne (.int i) (.int j) h = .ok (.bl (!decide (i = j))) h := rfl
@[simp] theorem cmp_eqS {a b : List Nat} : cmpR .eq (.str a) (.str b) h = .ok (.bl (decide (a = b))) h := rfl
@[simp] theorem cmp_neS {a b : List Nat} : cmpR .ne (.str a) (.str b) h = .ok (.bl (!decide (a = b))) h := rfl
@[simp] theorem cmp_eqB {a b : Bool} : cmpR .eq (.bl a) (.bl b) h = .ok (.bl (a == b)) h := rfl
@[simp] theorem in_S {c : Nat} {b : List Nat} : cmpR .inn (.str [c]) (.str b) h = .ok (.bl (decide (c ∈ b))) h := rfl
@[simp] theorem nin_S {c : Nat} {b : List Nat} : cmpR .nin (.str [c]) (.str b) h = .ok (.bl (!decide (c ∈ b))) h := rfl
@[simp] theorem ixop_S {z : List Nat} : ixop (.str z) (.int i) h = if z.length ≤ SZ then optR ((ati z i).map fun c => .str [c]) h else .no := rfl
@[simp] theorem ixop_T {xs : List D} : ixop (.tup xs) (.int i) h = optR (ati xs i) h := rfl
theorem ixop_L {xs : List D} (e : h[l]? = some (.lst xs)) : ixop (.ref l) (.int i) h = optR (ati xs i) h := by
  unfold ixop
  simp only [e]
theorem ixop_A {xs : List D} (e : lstAt h l = some xs) : ixop (.ref l) (.int i) h = optR (ati xs i) h := by
  unfold ixop
  unfold lstAt at e
  split at e
  · rename_i ys hy; cases e; simp only [hy]
  · rename_i ys hy; cases e; simp only [hy]
  · cases e
@[simp] theorem tru_bl {b : Bool} : truR h (.bl b) = .ok b h := rfl
@[simp] theorem tru_int : truR h (.int i) = .ok (i != 0) h := rfl
@[simp] theorem b1_int : b1op .int (.int i) h = .ok (.int i) h := rfl
@[simp] theorem b1_lenS {z : List Nat} : b1op .len (.str z) h = if z.length ≤ SZ then .ok (.int z.length) h else .no := by
  show optR ((if z.length ≤ SZ then some z.length else none).map fun n => D.int n) h = _
  split <;> rfl
@[simp] theorem b1_lenT {z : List D} : b1op .len (.tup z) h = .ok (.int z.length) h := rfl
theorem b1_lenA {xs : List D} (e : lstAt h l = some xs) : b1op .len (.ref l) h = .ok (.int xs.length) h := by
  show optR ((match h[l]? with
    | some (.lst xs) => some xs.length
    | some (.frz xs) => some xs.length
    | some (.dic kvs) => some kvs.length
    | _ => none).map fun n => D.int n) h = _
  unfold lstAt at e
  split at e
  · rename_i ys hy; cases e; rw [hy]; rfl
  · rename_i ys hy; cases e; rw [hy]; rfl
  · cases e
theorem setop_L {xs : List D} {k : Nat} (e : h[l]? = some (.lst xs)) (hk : ixn xs.length i = some k) : setop (.ref l) (.int i) x h = .ok () (put h l (.lst (xs.set k x))) := by
  show (match h[l]? with
    | some (.lst xs) => (match ixn xs.length i with
      | some j => Rs.ok () (put h l (.lst (xs.set j x)))
      | none => .no)
    | _ => .no) = _
  rw [e]
  show (match ixn xs.length i with
      | some j => Rs.ok () (put h l (.lst (xs.set j x)))
      | none => .no) = _
  rw [hk]
theorem put_get (e : h[l]? = some o) : (put h l o')[l]? = some o' := by
  unfold put
  exact List.getElem?_set_self (List.getElem?_eq_some_iff.mp e).1
theorem put_ne (e : l ≠ m) : (put h l o')[m]? = h[m]? := by
  unfold put
  exact List.getElem?_set_ne e
@[simp] theorem put_put : put (put h l o) l o' = put h l o' := by
  unfold put
  exact List.set_set ..
theorem lst_put (e : l ≠ m) : lstAt (put h l o') m = lstAt h m := by
  unfold lstAt
  rw [put_ne e]
theorem lst_of {xs : List D} (e : h[l]? = some (.lst xs)) : lstAt h l = some xs := by
  unfold lstAt
  rw [e]
end
end Mx

/-! The machine, run by rules: a goal is "what is run = what comes of it". -/
namespace Mx
open PySem
section
variable {α β : Type} {r r' : Rs α} {f : α → AH → Rs β} {R : Rs β} {x y d : D} {h h1 : AH} {c : Nat} {fs : Fs}
theorem bnd_r (e : r = r') (k : r'.bnd f = R) : r.bnd f = R := by rw [e]; exact k
theorem bnd_k {v : α} (k : f v h = R) : (Rs.ok v h).bnd f = R := k
theorem bnd_x : (Rs.ex c fs h : Rs α).bnd f = .ex c fs h := rfl
theorem nd_T {P : Prop} [Decidable P] (e : ¬P) : (!decide P) = true := by simp [e]
theorem nd_F {P : Prop} [Decidable P] (e : P) : (!decide P) = false := by simp [e]
theorem val_r {v : α} : (Rs.ok v h) = Rs.ok v h := rfl
theorem valx_r : (Rs.ex c fs h : Rs α) = Rs.ex c fs h := rfl
theorem ite_T {b : Bool} {A B : Rs β} (e : b = true) (k : A = R) : (if b = true then A else B) = R := by rw [if_pos e]; exact k
theorem ite_F {b : Bool} {A B : Rs β} (e : b = false) (k : B = R) : (if b = true then A else B) = R := by rw [e, if_neg (by decide)]; exact k
theorem opt_r {o : Option α} {v : α} (e : o = some v) : optR o h = .ok v h := by rw [e]; rfl
end
/-! what follows an evaluation -/
def attK (f : Nat) : D → AH → Rs D := fun x h1 => match x with
  | .ref l => match h1[l]? with
    | some (.ins _ fs) => optR (fget fs f) h1
    | _ => .no
  | _ => .no
def negK : D → AH → Rs D := fun x h1 => match x with
  | .int i => .ok (.int (-i)) h1
  | _ => .no
def makK1 (F : Cf) (c : Nat) : List D → AH → Rs D := fun xs h1 => match F.ini c with
    | some f => (F.mf f (.ref h1.length :: xs) (h1 ++ [.ins c []])).bnd fun d h2 => match d with
      | .non => .ok (.ref h1.length) h2
      | _ => .no
    | none => .no
def mthK (F : Cf) (m : Nat) (es : E) (s : Sl) : D → AH → Rs D := fun x h1 => match x with
    | .ref l => match h1[l]? with
      | some (.ins c _) => match F.md c m with
        | some f => (evs F es s h1).bnd fun xs h2 => F.cf f (.ref l :: xs) h2
        | none => .no
      | _ => .no
    | _ => .no
def intK : D → AH → Rs (Option Int) := fun x h1 => match x with
    | .int i => .ok (some i) h1
    | _ => .no
section
variable {F : Cf} {s : Sl} {h : AH} {R : Rs D} {RL : Rs (List D)} {RB : Rs Bool} {RO : Rs (Option Int)} {RW : Rs Wk} {i j m c f : Nat} {x : Str} {p p2 p3 p4 : Pos} {d : D} {a b e es ks l lo hi : E} {o : BO} {co : CO} {tg : Tg}
theorem v_var (e : sget s i = some d) : ev F (.var i x p) s h = .ok d h := opt_r e
theorem v_cst : ev F (.cst d p) s h = .ok d h := rfl
theorem v_glo : ev F (.glo d x p) s h = .ok d h := rfl
theorem v_bin (k : ((ev F a s h).bnd fun x h1 => (ev F b s h1).bnd fun y h2 => binop o x y h2) = R) : ev F (.bin o a b p) s h = R := k
theorem v_neg (k : (ev F a s h).bnd negK = R) : ev F (.neg a p) s h = R := k
theorem neg_r {i : Int} : negK (.int i) h = .ok (.int (-i)) h := rfl
theorem v_not (k : ((ev F a s h).bnd fun x h1 => (truR h1 x).bnd fun b h2 => .ok (.bl (!b)) h2) = R) : ev F (.not a p) s h = R := k
theorem v_cmp (k : ((ev F a s h).bnd fun x h1 => (ev F b s h1).bnd fun y h2 => cmpR co x y h2) = R) : ev F (.cmp co a b p) s h = R := k
theorem v_bo {an : Bool} {r : E} (k : ((ev F a s h).bnd fun x h1 => evb F an r x s h1) = R) : ev F (.bo an a r p) s h = R := k
theorem b_nil {an : Bool} : evb F an .anil d s h = .ok d h := rfl
theorem b_cons {an : Bool} {r : E} (k : ((truR h d).bnd fun k h1 => if k = an then (ev F a s h1).bnd fun y h2 => evb F an r y s h2 else .ok d h1) = R) : evb F an (.acons a r) d s h = R := k
theorem itA_T {A B : Rs D} {b : Bool} (e : b = true) (k : A = R) : (if b = true then A else B) = R := by rw [if_pos e]; exact k
theorem itO_F {A B : Rs D} {b : Bool} (e : b = false) (k : A = R) : (if b = false then A else B) = R := by rw [if_pos e]; exact k
theorem itO_T {A B : Rs D} {b : Bool} (e : b = true) (k : B = R) : (if b = false then A else B) = R := by rw [e, if_neg (by decide)]; exact k
theorem v_ife (k : ((ev F c' s h).bnd fun x h1 => (truR h1 x).bnd fun k h2 => if k = true then ev F a s h2 else ev F b s h2) = R) : ev F (.ife c' a b p) s h = R := k
theorem v_tup (k : ((evs F es s h).bnd fun xs h1 => if xs.length ≤ SZ then .ok (.tup xs) h1 else .no) = R) : ev F (.tup es p) s h = R := k
theorem v_newl (k : ((evl F l s h).bnd fun xs h1 => if xs.length ≤ SZ then alloc (.lst xs) h1 else .no) = R) : ev F (.newl l) s h = R := k
theorem al_r {o : O} : alloc o h = .ok (.ref h.length) (h ++ [o]) := rfl
theorem v_ix (k : ((ev F a s h).bnd fun x h1 => (ev F b s h1).bnd fun y h2 => ixop x y h2) = R) : ev F (.ix a b p) s h = R := k
theorem v_slc (k : ((ev F a s h).bnd fun x h1 => (evo F lo s h1).bnd fun l h2 => (evo F hi s h2).bnd fun u h3 => slcop x l u h3) = R) : ev F (.slc a lo hi p2 p) s h = R := k
theorem v_rev (k : ((ev F a s h).bnd fun x h1 => revop x h1) = R) : ev F (.rev a p p2 p3 p4) s h = R := k
theorem v_att (k : (ev F a s h).bnd (attK f) = R) : ev F (.att a f x p) s h = R := k
theorem att_r {l : Nat} {fs : Fs} (e : h[l]? = some (.ins c fs)) (ef : fget fs f = some d) : attK f (.ref l) h = .ok d h := by
  unfold attK
  simp only [e]
  exact opt_r ef
theorem v_call (k : ((evs F es s h).bnd fun xs h1 => F.cf f xs h1) = R) : ev F (.call f x p es p2) s h = R := k
theorem v_callk (k : ((evs F es s h).bnd fun xs h1 => (evs F ks s h1).bnd fun ys h2 => F.cf f (xs ++ ys) h2) = R) : ev F (.callk f x p es ks p2) s h = R := k
theorem v_make (k : (evs F es s h).bnd (makK1 F c) = R) : ev F (.make c x p es p2) s h = R := k
theorem mak_ok {xs : List D} {h1 : AH} (e : F.ini c = some f) (em : F.mf f (.ref h.length :: xs) (h ++ [.ins c []]) = .ok .non h1) : makK1 F c xs h = .ok (.ref h.length) h1 := by
  unfold makK1
  simp only [e, em]
  rfl
theorem mak_ex {xs : List D} {h1 : AH} {c' : Nat} {fs : Fs} (e : F.ini c = some f) (em : F.mf f (.ref h.length :: xs) (h ++ [.ins c []]) = .ex c' fs h1) : makK1 F c xs h = .ex c' fs h1 := by
  unfold makK1
  simp only [e, em]
  rfl
theorem v_mth (k : (ev F a s h).bnd (mthK F m es s) = R) : ev F (.mth a m x p es p2) s h = R := k
theorem mth_r {l : Nat} {fs : Fs} (e : h[l]? = some (.ins c fs)) (em : F.md c m = some f) (k : ((evs F es s h).bnd fun xs h2 => F.cf f (.ref l :: xs) h2) = R) : mthK F m es s (.ref l) h = R := by
  unfold mthK
  simp only [e, em]
  exact k
theorem v_b1 {b : B1} (k : ((ev F e s h).bnd fun x h1 => b1op b x h1) = R) : ev F (.b1 b e p p2) s h = R := k
theorem v_bl {b : BL} (k : ((evl F l s h).bnd fun xs h1 => optR (blop b xs) h1) = R) : ev F (.bl b l p p2) s h = R := k
theorem v_isi {t : Ty} (k : ((ev F e s h).bnd fun x h1 => optR ((isi t x h1).map .bl) h1) = R) : ev F (.isi e t p p2 p3) s h = R := k
theorem v_join (k : ((ev F e s h).bnd fun x h1 => if strQ x = true then (evl F l s h1).bnd fun xs h2 => joinop x xs h2 else .no) = R) : ev F (.join e l p p2) s h = R := k
theorem v_ext (k : ((ev F e s h).bnd fun x h1 => if lstQ h1 x = true then (evl F l s h1).bnd fun ys h2 => extop x ys h2 else .no) = R) : ev F (.ext e l p p2) s h = R := k
theorem v_bm {m : BM} (k : ((ev F e s h).bnd fun x h1 => if bmty m h1 x = true then (evs F es s h1).bnd fun xs h2 => bmop m x xs h2 else .no) = R) : ev F (.bm m e es p p2) s h = R := k
theorem v_dict : ev F (.dict e p) s h = .ok (.ref h.length) (h ++ [.dic []]) := rfl
theorem n_nil : evs F .anil s h = .ok [] h := rfl
theorem n_cons {r : E} (k : ((ev F a s h).bnd fun x h1 => (evs F r s h1).bnd fun xs h2 => .ok (x :: xs) h2) = RL) : evs F (.acons a r) s h = RL := k
theorem n_knil : evs F .knil s h = .ok [] h := rfl
theorem n_kcons {r : E} (k : ((ev F a s h).bnd fun x h1 => (evs F r s h1).bnd fun xs h2 => .ok (x :: xs) h2) = RL) : evs F (.kcons x a p r) s h = RL := k
theorem o_none : evo F .onone s h = .ok none h := rfl
theorem o_some (k : (ev F e s h).bnd intK = RO) : evo F (.osome e) s h = RO := k
theorem int_r {i : Int} : intK (.int i) h = .ok (some i) h := rfl
theorem c_none : evc F .onone s h = .ok true h := rfl
theorem c_some (k : ((ev F e s h).bnd fun x h1 => truR h1 x) = RB) : evc F (.osome e) s h = RB := k
theorem l_disp (k : ((evs F es s h).bnd fun xs h1 => if xs.length ≤ SZ then .ok xs h1 else .no) = RL) : evl F (.ldisp es p) s h = RL := k
theorem l_val (k : ((ev F e s h).bnd fun x h1 => optR (valop x h1) h1) = RL) : evl F (.lval e) s h = RL := k
theorem l_ref (k : ((ev F e s h).bnd fun x h1 => optR (refop x h1) h1) = RL) : evl F (.lref e) s h = RL := k
theorem l_list (k : ((ev F e s h).bnd fun x h1 => optR (listop x h1) h1) = RL) : evl F (.llist e p p2) s h = RL := k
theorem i_seq (k : ((ev F e s h).bnd fun x h1 => optR (seqop x h1) h1) = RW) : evi F (.iseq e) s h = RW := k
theorem i_rng1 (k : ((ev F e s h).bnd fun x h1 => optR (rng1 x) h1) = RW) : evi F (.irng1 e p p2) s h = RW := k
theorem i_rng2 (k : ((ev F a s h).bnd fun x h1 => (ev F b s h1).bnd fun y h2 => optR (rng2 x y) h2) = RW) : evi F (.irng2 a b p p2) s h = RW := k
theorem i_enum (k : ((ev F e s h).bnd fun x h1 => optR ((seqop x h1).map fun w => (enumF 0 w.1, w.2)) h1) = RW) : evi F (.ienum e p p2) s h = RW := k
theorem sz_r {α : Type} {n : Nat} {A B R : Rs α} (e : n ≤ SZ) (k : A = R) : (if n ≤ SZ then A else B) = R := by rw [if_pos e]; exact k
theorem tb_r {b : Bool} : truR h (.bl b) = .ok b h := rfl
end
/-! statements -/
def seqK (F : Cf) (xf : Nat → Option (List Nat)) (r : S) : Fl → AH → Rs Fl := fun f h1 => match f with
    | .nx s1 => ex F xf r s1 h1
    | f => .ok f h1
def unpK (tg : Tg) (s : Sl) : D → AH → Rs Fl := fun x h1 => match tg.set x s with
    | some s1 => .ok (.nx s1) h1
    | none => .no
def parK (l : List (Nat × Str × Pos)) (s : Sl) : List D → AH → Rs Fl := fun xs h1 => match asgs s l xs with
    | some s1 => .ok (.nx s1) h1
    | none => .no
def fldK (F : Cf) (f : Nat) (y : D) (s : Sl) : D → AH → Rs Fl := fun x h2 => match x with
    | .ref l => match h2[l]? with
      | some (.ins c fs) => if fs.length < 900 ∧ F.md c f = none then .ok (.nx s) (put h2 l (.ins c (fput f y fs))) else .no
      | _ => .no
    | _ => .no
def fauK (F : Cf) (f : Nat) (sb : Bool) (e : E) (s : Sl) : D → AH → Rs Fl := fun x h1 => match x with
    | .ref l => match h1[l]? with
      | some (.ins c fs) => match fget fs f with
        | some v => (ev F e s h1).bnd fun y h2 => (augop sb v y h2).bnd fun z h3 => match h3[l]? with
          | some (.ins c' fs') => if fs'.length < 900 ∧ c' = c then .ok (.nx s) (put h3 l (.ins c' (fput f z fs'))) else .no
          | _ => .no
        | none => .no
      | _ => .no
    | _ => .no
def raiK (xf : Nat → Option (List Nat)) (c : Nat) : List D → AH → Rs Fl := fun xs h1 => match exc xf c xs with
    | some fs => .ex c fs h1
    | none => .no
def tryK (xf : Nat → Option (List Nat)) (c : Nat) (hr : Hr) : Rs Fl → Rs Fl
    | .ok f h1 => .ok f h1
    | .no => .no
    | .ex c' fs h1 => if (xf c').isSome = true then if c' = c then match hr.val fs with
      | some d => .ok (.rt d) h1
      | none => .no
      else .ex c' fs h1 else .no
section
variable {F : Cf} {xf : Nat → Option (List Nat)} {s s1 : Sl} {h : AH} {R : Rs Fl} {i j m c f : Nat} {x n : Str} {p p2 p3 p4 : Pos} {d : D} {e es a' : E} {a b r : S} {tg : Tg} {xs : List D}
theorem x_nil : ex F xf .snil s h = .ok (.nx s) h := rfl
theorem x_cons (k : (ex F xf a s h).bnd (seqK F xf r) = R) : ex F xf (.scons a r) s h = R := k
theorem seq_nx (k : ex F xf r s1 h = R) : seqK F xf r (.nx s1) h = R := k
theorem seq_rt : seqK F xf r (.rt d) h = .ok (.rt d) h := rfl
theorem seq_bk : seqK F xf r (.bk s) h = .ok (.bk s) h := rfl
theorem seq_ct : seqK F xf r (.ct s) h = .ok (.ct s) h := rfl
theorem x_exp (k : ((ev F e s h).bnd fun _ h1 => .ok (.nx s) h1) = R) : ex F xf (.exp e p) s h = R := k
theorem x_set (k : ((ev F e s h).bnd fun x h1 => .ok (.nx (asg1 s i x)) h1) = R) : ex F xf (.set i x p e p2) s h = R := k
theorem x_unp (k : (ev F e s h).bnd (unpK tg s) = R) : ex F xf (.unp tg e p) s h = R := k
theorem unp_r (e : tg.set d s = some s1) : unpK tg s d h = .ok (.nx s1) h := by unfold unpK; simp only [e]
theorem x_par {l : List (Nat × Str × Pos)} (k : (evs F es s h).bnd (parK l s) = R) : ex F xf (.par l p es p2 p3) s h = R := k
theorem par_r {l : List (Nat × Str × Pos)} (e : asgs s l xs = some s1) : parK l s xs h = .ok (.nx s1) h := by unfold parK; simp only [e]
theorem x_fld (k : ((ev F e s h).bnd fun y h1 => (ev F a' s h1).bnd (fldK F f y s)) = R) : ex F xf (.fld a' f x p e p2) s h = R := k
theorem fld_r {y : D} {l : Nat} {fs : Fs} (e : h[l]? = some (.ins c fs)) (en : fs.length < 900) (em : F.md c f = none) : fldK F f y s (.ref l) h = .ok (.nx s) (put h l (.ins c (fput f y fs))) := by
  unfold fldK
  simp only [e]
  exact if_pos ⟨en, em⟩
theorem x_fau {sb : Bool} (k : (ev F a' s h).bnd (fauK F f sb e s) = R) : ex F xf (.fau a' f x p sb e p2) s h = R := k
theorem fau_r {sb : Bool} {l : Nat} {fs : Fs} {v z y : D} (eo : h[l]? = some (.ins c fs)) (ef : fget fs f = some v) (ee : ev F e s h = .ok y h) (eg : augop sb v y h = .ok z h) (en : fs.length < 900) : fauK F f sb e s (.ref l) h = .ok (.nx s) (put h l (.ins c (fput f z fs))) := by
  unfold fauK
  simp only [eo, ef, ee, bnd_ok, eg]
  exact if_pos ⟨en, trivial⟩
theorem aug_i {i j : Int} : augop false (.int i) (.int j) h = .ok (.int (i + j)) h := rfl
theorem aug_s {i j : Int} : augop true (.int i) (.int j) h = .ok (.int (i - j)) h := rfl
theorem x_aug {sb : Bool} {v : D} (es : sget s i = some v) (k : ((ev F e s h).bnd fun y h1 => (augop sb v y h1).bnd fun z h2 => .ok (.nx (asg1 s i z)) h2) = R) : ex F xf (.aug i x p sb e p2) s h = R := by
  show (match sget s i with
    | some v => (ev F e s h).bnd fun y h1 => (augop sb v y h1).bnd fun z h2 => Rs.ok (Fl.nx (asg1 s i z)) h2
    | none => .no) = R
  rw [es]
  exact k
theorem x_sub {o' i' : E} (k : ((ev F e s h).bnd fun d h1 => (ev F o' s h1).bnd fun x h2 => (ev F i' s h2).bnd fun y h3 => (setop x y d h3).bnd fun _ h4 => .ok (.nx s) h4) = R) : ex F xf (.sub o' i' p e p2) s h = R := k
theorem x_ret (k : ((ev F e s h).bnd fun x h1 => .ok (.rt x) h1) = R) : ex F xf (.ret e p) s h = R := k
theorem x_retn : ex F xf (.retn p) s h = .ok (.rt .non) h := rfl
theorem x_ife (k : ((ev F e s h).bnd fun x h1 => truR h1 x).bnd (fun k h1 => if k = true then ex F xf a s h1 else ex F xf b s h1) = R) : ex F xf (.ife e a b p) s h = R := k
theorem x_loop (k : ((evi F e s h).bnd fun w h1 => foM tg.set (ex F xf b) w.2 w.1 s h1) = R) : ex F xf (.loop tg e b p) s h = R := k
theorem x_brk : ex F xf (.brk p) s h = .ok (.bk s) h := rfl
theorem x_cnt : ex F xf (.cnt p) s h = .ok (.ct s) h := rfl
theorem x_pas : ex F xf (.pas p) s h = .ok (.nx s) h := rfl
theorem x_rai (k : (evs F es s h).bnd (raiK xf c) = R) : ex F xf (.rai c x p es p2 p3) s h = R := k
theorem rai_r {fs : Fs} (e : exc xf c xs = some fs) : raiK xf c xs h = .ex c fs h := by unfold raiK; simp only [e]
theorem x_try {hr : Hr} {r0 : Rs Fl} (e0 : ex F xf b s h = r0) (k : tryK xf c hr r0 = R) : ex F xf (.tryr b c x p i n hr p2 p3 p4) s h = R := by
  rw [← k, ← e0]
  show (match ex F xf b s h with
    | .ok f h1 => Rs.ok f h1
    | .no => .no
    | .ex c' fs h1 => if (xf c').isSome = true then if c' = c then match hr.val fs with
      | some d => .ok (.rt d) h1
      | none => .no
      else .ex c' fs h1 else .no) = _
  unfold tryK
  rfl
theorem fo_nil {t : D → Sl → Option Sl} {b : M Fl} {g : Option (Nat × List D)} (e : grd g h = true) : foM t b g [] s h = .ok (.nx s) h := if_pos e
theorem fo_cons {t : D → Sl → Option Sl} {b : M Fl} {g : Option (Nat × List D)} {y : D} {ys : List D} {s2 : Sl} {h1 : AH} (e : grd g h = true) (et : t y s = some s1) (eb : b s1 h = .ok (.nx s2) h1) (k : foM t b g ys s2 h1 = R) : foM t b g (y :: ys) s h = R := by
  show (if grd g h = true then match t y s with
    | none => Rs.no
    | some s1 => (b s1 h).bnd fun f h2 => match f with
      | .nx s2 => foM t b g ys s2 h2
      | .ct s2 => foM t b g ys s2 h2
      | .bk s2 => Rs.ok (.nx s2) h2
      | .rt d => Rs.ok (.rt d) h2
    else Rs.no) = R
  rw [if_pos e, et]
  show ((b s1 h).bnd _) = R
  rw [eb]
  exact k
theorem fo_ct {t : D → Sl → Option Sl} {b : M Fl} {g : Option (Nat × List D)} {y : D} {ys : List D} {s2 : Sl} {h1 : AH} (e : grd g h = true) (et : t y s = some s1) (eb : b s1 h = .ok (.ct s2) h1) (k : foM t b g ys s2 h1 = R) : foM t b g (y :: ys) s h = R := by
  show (if grd g h = true then match t y s with
    | none => Rs.no
    | some s1 => (b s1 h).bnd fun f h2 => match f with
      | .nx s2 => foM t b g ys s2 h2
      | .ct s2 => foM t b g ys s2 h2
      | .bk s2 => Rs.ok (.nx s2) h2
      | .rt d => Rs.ok (.rt d) h2
    else Rs.no) = R
  rw [if_pos e, et]
  show ((b s1 h).bnd _) = R
  rw [eb]
  exact k
theorem fo_rt {t : D → Sl → Option Sl} {b : M Fl} {g : Option (Nat × List D)} {y : D} {ys : List D} {h1 : AH} (e : grd g h = true) (et : t y s = some s1) (eb : b s1 h = .ok (.rt d) h1) : foM t b g (y :: ys) s h = .ok (.rt d) h1 := by
  show (if grd g h = true then match t y s with
    | none => Rs.no
    | some s1 => (b s1 h).bnd fun f h2 => match f with
      | .nx s2 => foM t b g ys s2 h2
      | .ct s2 => foM t b g ys s2 h2
      | .bk s2 => Rs.ok (.nx s2) h2
      | .rt d => Rs.ok (.rt d) h2
    else Rs.no) = _
  rw [if_pos e, et]
  show ((b s1 h).bnd _) = _
  rw [eb]
  rfl
theorem fo_ex {t : D → Sl → Option Sl} {b : M Fl} {g : Option (Nat × List D)} {y : D} {ys : List D} {h1 : AH} {fs : Fs} (e : grd g h = true) (et : t y s = some s1) (eb : b s1 h = .ex c fs h1) : foM t b g (y :: ys) s h = .ex c fs h1 := by
  show (if grd g h = true then match t y s with
    | none => Rs.no
    | some s1 => (b s1 h).bnd fun f h2 => match f with
      | .nx s2 => foM t b g ys s2 h2
      | .ct s2 => foM t b g ys s2 h2
      | .bk s2 => Rs.ok (.nx s2) h2
      | .rt d => Rs.ok (.rt d) h2
    else Rs.no) = _
  rw [if_pos e, et]
  show ((b s1 h).bnd _) = _
  rw [eb]
  rfl
theorem grd_n : grd none h = true := rfl
theorem grd_s {l : Nat} {xs : List D} (e : lstAt h l = some xs) : grd (some (l, xs)) h = true := decide_eq_true e
theorem wh_F {t : M Bool} {b : M Fl} {n : Nat} {h1 : AH} (e : t s h = .ok false h1) : whM t b (n + 1) s h = .ok (.nx s) h1 := by
  show ((t s h).bnd _) = _
  rw [e]
  rfl
theorem wh_nx {t : M Bool} {b : M Fl} {n : Nat} {h1 h2 : AH} {s2 : Sl} (e : t s h = .ok true h1) (eb : b s h1 = .ok (.nx s2) h2) (k : whM t b n s2 h2 = R) : whM t b (n + 1) s h = R := by
  show ((t s h).bnd fun k h1 => if k = true then (b s h1).bnd fun f h2 => match f with
      | .nx s2 => whM t b n s2 h2
      | .ct s2 => whM t b n s2 h2
      | .bk s2 => .ok (.nx s2) h2
      | .rt d => .ok (.rt d) h2
    else .ok (.nx s) h1) = _
  rw [e]
  show ((b s h1).bnd _) = _
  rw [eb]
  exact k
theorem wh_rt {t : M Bool} {b : M Fl} {n : Nat} {h1 h2 : AH} (e : t s h = .ok true h1) (eb : b s h1 = .ok (.rt d) h2) : whM t b (n + 1) s h = .ok (.rt d) h2 := by
  show ((t s h).bnd fun k h1 => if k = true then (b s h1).bnd fun f h2 => match f with
      | .nx s2 => whM t b n s2 h2
      | .ct s2 => whM t b n s2 h2
      | .bk s2 => .ok (.nx s2) h2
      | .rt d => .ok (.rt d) h2
    else .ok (.nx s) h1) = _
  rw [e]
  show ((b s h1).bnd _) = _
  rw [eb]
  rfl
theorem wh_ex {t : M Bool} {b : M Fl} {n : Nat} {h1 h2 : AH} {fs : Fs} (e : t s h = .ok true h1) (eb : b s h1 = .ex c fs h2) : whM t b (n + 1) s h = .ex c fs h2 := by
  show ((t s h).bnd fun k h1 => if k = true then (b s h1).bnd fun f h2 => match f with
      | .nx s2 => whM t b n s2 h2
      | .ct s2 => whM t b n s2 h2
      | .bk s2 => .ok (.nx s2) h2
      | .rt d => .ok (.rt d) h2
    else .ok (.nx s) h1) = _
  rw [e]
  show ((b s h1).bnd _) = _
  rw [eb]
  rfl
theorem rev_r {xs : List D} {l : Nat} (e : h[l]? = some (.lst xs)) : revop (.ref l) h = .ok (.ref h.length) (h ++ [.lst xs.reverse]) := by
  unfold revop
  simp only [e]
  rfl
theorem seq_r {xs : List D} {l : Nat} (e : lstAt h l = some xs) : optR (seqop (.ref l) h) h = .ok (xs, some (l, xs)) h := by
  show optR ((lstAt h l).map fun xs => (xs, some (l, xs))) h = _
  rw [e]
  rfl
theorem app_r {xs : List D} {l : Nat} {y : D} (e : h[l]? = some (.lst xs)) (hl : xs.length < SZ) : bmop .append (.ref l) [y] h = .ok .non (put h l (.lst (xs ++ [y]))) := by
  show (match h[l]? with
    | some (.lst xs) => if xs.length < SZ then Rs.ok D.non (put h l (.lst (xs ++ [y]))) else .no
    | _ => .no) = _
  rw [e]
  exact if_pos hl
theorem lstQ_r {xs : List D} {l : Nat} (e : h[l]? = some (.lst xs)) : lstQ h (.ref l) = true := by
  show (match h[l]? with
    | some (.lst _) => true
    | _ => false) = true
  rw [e]
/-! heaps that grow -/
/-- nothing old changes but at i -/
structure Ext (i : Nat) (h h' : AH) : Prop where
  len : h.length ≤ h'.length
  old : ∀ l, l ≠ i → l < h.length → h'[l]? = h[l]?
/-- nothing old changes -/
structure Gr (h h' : AH) : Prop where
  len : h.length ≤ h'.length
  old : ∀ l, l < h.length → h'[l]? = h[l]?
theorem lt_of {o : O} {l : Nat} (e : h[l]? = some o) : l < h.length := (List.getElem?_eq_some_iff.mp e).1
theorem Ext.get {h' : AH} {o : O} {l : Nat} (E : Ext i h h') (hl : l ≠ i) (e : h[l]? = some o) : h'[l]? = some o := by rw [E.old l hl (lt_of e), e]
theorem Gr.get {h' : AH} {o : O} {l : Nat} (E : Gr h h') (e : h[l]? = some o) : h'[l]? = some o := by rw [E.old l (lt_of e), e]
theorem Gr.lst {h' : AH} {xs : List D} {l : Nat} (E : Gr h h') (e : lstAt h l = some xs) : lstAt h' l = some xs := by
  unfold lstAt at e ⊢
  have hl : l < h.length := by
    rcases Nat.lt_or_ge l h.length with h1 | h1
    · exact h1
    · rw [List.getElem?_eq_none_iff.mpr h1] at e
      cases e
  rw [E.old l hl]
  exact e
theorem Gr.refl : Gr h h := ⟨Nat.le_refl _, fun _ _ => rfl⟩
theorem Gr.trans {h1 h2 : AH} (a : Gr h h1) (b : Gr h1 h2) : Gr h h2 := ⟨Nat.le_trans a.len b.len, fun l hl => (b.old l (Nat.lt_of_lt_of_le hl a.len)).trans (a.old l hl)⟩
theorem Gr.app (os : List O) : Gr h (h ++ os) := ⟨by rw [List.length_append]; omega, fun l hl => List.getElem?_append_left hl⟩
theorem Gr.ext {h' : AH} (i : Nat) (a : Gr h h') : Ext i h h' := ⟨a.len, fun l _ hl => a.old l hl⟩
theorem Ext.refl (i : Nat) (h : AH) : Ext i h h := ⟨Nat.le_refl _, fun _ _ _ => rfl⟩
theorem Ext.trans {h1 h2 : AH} (a : Ext i h h1) (b : Ext i h1 h2) : Ext i h h2 := ⟨Nat.le_trans a.len b.len, fun l hi hl => (b.old l hi (Nat.lt_of_lt_of_le hl a.len)).trans (a.old l hi hl)⟩
theorem Ext.put (i : Nat) (h : AH) (o : O) : Ext i h (put h i o) := ⟨by unfold Mx.put; rw [List.length_set]; exact Nat.le_refl _, fun l hl _ => put_ne (Ne.symm hl)⟩
/-- a new place may change -/
theorem Ext.new {h1 h2 : AH} (a : Ext i h h1) (hm : h.length ≤ m) (b : Ext m h1 h2) (hi : h2[i]? = h1[i]? ∨ True) : Ext i h h2 := ⟨Nat.le_trans a.len b.len, fun l hl hh => (b.old l (by omega) (Nat.lt_of_lt_of_le hh a.len)).trans (a.old l hl hh)⟩
theorem get_new {o : O} : (h ++ [o])[h.length]? = some o := by simp
theorem len_app {o : O} : (h ++ [o]).length = h.length + 1 := by simp
theorem len_put {o : O} {l : Nat} : (Mx.put h l o).length = h.length := by unfold Mx.put; exact List.length_set
theorem ends_r {r : Rs Fl} {R : Rs D} {r0 : Rs Fl} (e : r = r0) (k : ends r0 = R) : ends r = R := by rw [e]; exact k
theorem addS_r {a b : List Nat} (e : a.length + b.length ≤ SZ) : binop .add (.str a) (.str b) h = .ok (.str (a ++ b)) h := by rw [binop_addS, if_pos e]
theorem ixL_r {xs : List D} {l : Nat} {i : Int} (e : lstAt h l = some xs) (e2 : ati xs i = some d) : ixop (.ref l) (.int i) h = .ok d h := by rw [ixop_A e, e2]; rfl
theorem ixT_r {xs : List D} {i : Int} (e2 : ati xs i = some d) : ixop (.tup xs) (.int i) h = .ok d h := by rw [ixop_T, e2]; rfl
theorem ixS_r {xs : List Nat} {i : Int} {c : Nat} (e1 : xs.length ≤ SZ) (e2 : ati xs i = some c) : ixop (.str xs) (.int i) h = .ok (.str [c]) h := by rw [ixop_S, e2, if_pos e1]; rfl
theorem b1L_r {xs : List D} {l : Nat} (e : lstAt h l = some xs) : b1op .len (.ref l) h = .ok (.int xs.length) h := b1_lenA e
end
end Mx

/-! What the machine's values and heaps are in the model: relations, and how they last. -/
namespace Ms
open PySem PySem.Spec PyProof.Rows L2 Mx

/-! ### what lasts -/
/-- tuples stay -/
def Kp (H H' : Hp) : Prop := ∀ a xs, H a = some (.tup xs) → H' a = some (.tup xs)
theorem Kp.refl (H : Hp) : Kp H H := fun _ _ h => h
theorem Kp.trans {H H1 H2 : Hp} (a : Kp H H1) (b : Kp H1 H2) : Kp H H2 := fun c xs h => b c xs (a c xs h)
theorem Kp.upd {H : Hp} {a : Addr} {o : HO} (h : ∀ xs, H a ≠ some (.tup xs)) : Kp H (upd H a o) := fun b xs e => by
  by_cases hb : b = a
  · rw [hb] at e; exact absurd e (h xs)
  · rw [upd_ne hb]; exact e
theorem Kp.new {H : Hp} {a : Addr} {o : HO} (h : H a = none) : Kp H (L2.upd H a o) := Kp.upd fun xs z => by rw [h] at z; cases z
/-- addresses by place -/
abbrev Rho := List Addr
/-! ### values -/
/-- a tuple of the written part -/
def KT (K : PySem.W.Frag) (a : Addr) (xs : List V) : Prop :=
  ∃ (o : Obj) (its : Array Value) (n : Nat), K.lookup a = some o ∧ o.cls = .type "tuple" ∧ o.data = .seq its n ∧ its.size ≤ sizeLine ∧ Vals xs its.toList
def TA (K : PySem.W.Frag) (H : Hp) (a : Addr) (xs : List V) : Prop := H a = some (.tup xs) ∨ KT K a xs
theorem TA.sq {K : PySem.W.Frag} {H : Hp} {a : Addr} {xs : List V} (h : TA K H a xs) : SqT K H a xs := by
  rcases h with h | h
  · exact .of h
  · exact .inr h
theorem TA.mono {K : PySem.W.Frag} {H H' : Hp} {a : Addr} {xs : List V} (k : Kp H H') (h : TA K H a xs) : TA K H' a xs := by
  rcases h with h | h
  · exact .inl (k _ _ h)
  · exact .inr h
def sS (x : List Nat) : Str := ⟨x.toArray⟩
mutual
def R (K : PySem.W.Frag) (ρ : Rho) (H : Hp) : D → V → Prop
  | .non, v => v = .non
  | .bl b, v => v = .bl b
  | .int i, v => v = .int i
  | .str x, v => v = .str (sS x)
  | .tup ds, v => ∃ a vs, v = .ref a ∧ TA K H a vs ∧ RL K ρ H ds vs
  | .ref l, v => ∃ a, v = .ref a ∧ ρ[l]? = some a
def RL (K : PySem.W.Frag) (ρ : Rho) (H : Hp) : List D → List V → Prop
  | [], vs => vs = []
  | d :: ds, vs => ∃ v r, vs = v :: r ∧ R K ρ H d v ∧ RL K ρ H ds r
end
theorem pre_get {ρ ρ' : Rho} {l : Nat} {a : Addr} (p : ρ <+: ρ') (h : ρ[l]? = some a) : ρ'[l]? = some a := by
  obtain ⟨t, rfl⟩ := p
  rw [List.getElem?_append_left (List.getElem?_eq_some_iff.mp h).1]
  exact h
section
variable {K : PySem.W.Frag} {ρ ρ' : Rho} {H H' : Hp}
mutual
theorem R.mono (p : ρ <+: ρ') (k : Kp H H') : ∀ {d : D} {v : V}, R K ρ H d v → R K ρ' H' d v
  | .non, _, h => h
  | .bl _, _, h => h
  | .int _, _, h => h
  | .str _, _, h => h
  | .tup ds, v, h => by
    unfold R at h ⊢
    obtain ⟨a, vs, e, t, r⟩ := h
    exact ⟨a, vs, e, t.mono k, RL.mono p k r⟩
  | .ref l, v, h => by
    unfold R at h ⊢
    obtain ⟨a, e, q⟩ := h
    exact ⟨a, e, pre_get p q⟩
theorem RL.mono (p : ρ <+: ρ') (k : Kp H H') : ∀ {ds : List D} {vs : List V}, RL K ρ H ds vs → RL K ρ' H' ds vs
  | [], _, h => h
  | d :: ds, vs, h => by
    unfold RL at h ⊢
    obtain ⟨v, r, e, a, b⟩ := h
    exact ⟨v, r, e, R.mono p k a, RL.mono p k b⟩
end
theorem RL.nil : RL K ρ H [] [] := by unfold RL; rfl
theorem RL.cons {d : D} {v : V} {ds : List D} {vs : List V} (a : R K ρ H d v) (b : RL K ρ H ds vs) : RL K ρ H (d :: ds) (v :: vs) := by
  unfold RL; exact ⟨v, vs, rfl, a, b⟩
theorem RL.length : ∀ {ds : List D} {vs : List V}, RL K ρ H ds vs → vs.length = ds.length
  | [], _, h => by unfold RL at h; rw [h]; rfl
  | d :: ds, vs, h => by
    unfold RL at h
    obtain ⟨v, r, e, _, b⟩ := h
    rw [e, List.length_cons, List.length_cons, RL.length b]
theorem RL.get : ∀ {ds : List D} {vs : List V} {i : Nat} {d : D}, RL K ρ H ds vs → ds[i]? = some d → ∃ v, vs[i]? = some v ∧ R K ρ H d v
  | [], _, _, _, _, e => by simp at e
  | d :: ds, vs, 0, x, h, e => by
    unfold RL at h
    obtain ⟨v, r, rfl, a, _⟩ := h
    simp at e; subst e
    exact ⟨v, rfl, a⟩
  | d :: ds, vs, i + 1, x, h, e => by
    unfold RL at h
    obtain ⟨v, r, rfl, _, b⟩ := h
    obtain ⟨w, h1, h2⟩ := RL.get (i := i) b (by simpa using e)
    exact ⟨w, by simpa using h1, h2⟩
theorem RL.app : ∀ {ds es : List D} {vs ws : List V}, RL K ρ H ds vs → RL K ρ H es ws → RL K ρ H (ds ++ es) (vs ++ ws)
  | [], _, _, _, h, g => by unfold RL at h; subst h; exact g
  | d :: ds, _, _, _, h, g => by
    unfold RL at h
    obtain ⟨v, r, rfl, a, b⟩ := h
    exact RL.cons a (RL.app b g)
theorem RL.set : ∀ {ds : List D} {vs : List V} {d : D} {v : V} (i : Nat), RL K ρ H ds vs → R K ρ H d v → RL K ρ H (ds.set i d) (vs.set i v)
  | [], _, _, _, _, h, _ => by unfold RL at h; subst h; exact RL.nil
  | d :: ds, _, _, _, 0, h, g => by
    unfold RL at h
    obtain ⟨v, r, rfl, a, b⟩ := h
    exact RL.cons g b
  | d :: ds, _, _, _, i + 1, h, g => by
    unfold RL at h
    obtain ⟨v, r, rfl, a, b⟩ := h
    exact RL.cons a (RL.set i b g)
theorem RL.take : ∀ {ds : List D} {vs : List V} (n : Nat), RL K ρ H ds vs → RL K ρ H (ds.take n) (vs.take n)
  | _, _, 0, _ => by rw [List.take_zero, List.take_zero]; exact RL.nil
  | [], _, n + 1, h => by unfold RL at h; subst h; exact RL.nil
  | d :: ds, _, n + 1, h => by
    unfold RL at h
    obtain ⟨v, r, rfl, a, b⟩ := h
    exact RL.cons a (RL.take n b)
theorem RL.drop : ∀ {ds : List D} {vs : List V} (n : Nat), RL K ρ H ds vs → RL K ρ H (ds.drop n) (vs.drop n)
  | _, _, 0, h => h
  | [], _, n + 1, h => by unfold RL at h; subst h; exact RL.nil
  | d :: ds, _, n + 1, h => by
    unfold RL at h
    obtain ⟨v, r, rfl, a, b⟩ := h
    exact RL.drop n b
theorem RL.rev : ∀ {ds : List D} {vs : List V}, RL K ρ H ds vs → RL K ρ H ds.reverse vs.reverse
  | [], _, h => by unfold RL at h; subst h; exact RL.nil
  | d :: ds, _, h => by
    unfold RL at h
    obtain ⟨v, r, rfl, a, b⟩ := h
    rw [List.reverse_cons, List.reverse_cons]
    exact RL.app (RL.rev b) (RL.cons a RL.nil)
theorem RL.dropLast : ∀ {ds : List D} {vs : List V}, RL K ρ H ds vs → RL K ρ H ds.dropLast vs.dropLast := fun {ds vs} h => by
  rw [List.dropLast_eq_take, List.dropLast_eq_take, h.length]
  exact h.take _
theorem RL.nil_iff {ds : List D} {vs : List V} (h : RL K ρ H ds vs) : ds.isEmpty = vs.isEmpty := by
  cases ds with
  | nil => unfold RL at h; subst h; rfl
  | cons d ds => unfold RL at h; obtain ⟨v, r, rfl, _⟩ := h; rfl
theorem RL.map {α : Type} {f : α → D} {g : α → V} (h : ∀ a, R K ρ H (f a) (g a)) : ∀ l : List α, RL K ρ H (l.map f) (l.map g)
  | [] => RL.nil
  | a :: l => RL.cons (h a) (RL.map h l)
theorem RL.rep {ds : List D} {vs : List V} (h : RL K ρ H ds vs) : ∀ n, RL K ρ H (Mx.rep ds n) (List.replicate n vs).flatten
  | 0 => RL.nil
  | n + 1 => by
    rw [List.replicate_succ, List.flatten_cons]
    exact RL.app h (RL.rep h n)
end
/-! ### the written program in the model -/
structure GL where
  K : PySem.W.Frag
  mg : Str → Option Value
  P : Pr
  nms : List Str
  cA : Nat → Addr
  FA : Nat → Addr
  FD : Nat → FuncData
  PS : Nat → List Str
  cN : Nat → Option Str
  fN : Nat → Option Str
  cons : List (Str × D)
  T : List (Addr × Str)
  XA : Nat → Addr
  XD : Nat → FuncData
  XS : Nat → List Str
  /-- the names of the def that makes lambdas; who gets them: its name, what it catches, the field it hands back -/
  lsc : List (Str × NameKind)
  lrf : Str × Nat × Nat
  /-- calls with keywords: the def, how many are without, the keywords -/
  kws : List (Nat × Nat × List Str)
  /-- lists under way, which nobody holds -/
  fr : List (Addr × List V)
def GL.wf (G : GL) (fr : List (Addr × List V)) : GL := { G with fr := fr }
/-- fields -/
def FR (G : GL) (ρ : Rho) (H : Hp) : Fs → List (Str × V) → Prop
  | [], fs => fs = []
  | (i, d) :: r, fs => ∃ x v s, fs = (x, v) :: s ∧ G.nms[i]? = some x ∧ R G.K ρ H d v ∧ FR G ρ H r s
/-- a list that is only read -/
def FZ (K : PySem.W.Frag) (H : Hp) (a : Addr) (xs : List V) : Prop := (∃ o, H a = some (.frz o (.lst xs))) ∨
  ∃ (o : Obj) (its : Array Value) (n : Nat), K.lookup a = some o ∧ o.cls = .type "list" ∧ o.dict = none ∧ o.data = .seq its n ∧ its.size ≤ sizeLine ∧ Vals xs its.toList
theorem FZ.sq {K : PySem.W.Frag} {H : Hp} {a : Addr} {xs : List V} (h : FZ K H a xs) : SqL K H a xs := by
  rcases h with ⟨o, h⟩ | h
  · exact .inl (.inr ⟨o, h⟩)
  · exact .inr h
def OR (G : GL) (ρ : Rho) (H : Hp) (a : Addr) : O → Prop
  | .lst ds => ∃ vs, H a = some (.lst vs) ∧ RL G.K ρ H ds vs
  | .frz ds => ∃ vs, FZ G.K H a vs ∧ RL G.K ρ H ds vs
  | .ins c fs => ∃ dx fs', H a = some (.ins (G.cA c) dx fs') ∧ FR G ρ H fs fs' ∧ (G.P.ini c).isSome = true ∧ ∀ p ∈ fs, G.P.md c p.1 = none
  | .dic _ => False
def _root_.Mx.O.own : O → Bool
  | .frz _ => false
  | _ => true
structure HR (G : GL) (ρ : Rho) (h : AH) (H : Hp) : Prop where
  len : ρ.length = h.length
  nd : ∀ (l l' : Nat) (a : Addr) (o o' : O), ρ[l]? = some a → ρ[l']? = some a → h[l]? = some o → h[l']? = some o' → o.own = true → o'.own = true → l = l'
  obj : ∀ (l : Nat) (a : Addr) (o : O), ρ[l]? = some a → h[l]? = some o → OR G ρ H a o
  tab : LamX.Tabs G.T H
  frm : ∀ p ∈ G.fr, H p.1 = some (.lst p.2) ∧ ∀ (l : Nat) (o : O), ρ[l]? = some p.1 → h[l]? = some o → o.own = true → False
  frn : (G.fr.map (·.1)).Nodup
section
variable {G : GL} {ρ ρ' : Rho} {h h' : AH} {H H' : Hp}
theorem FR.mono (p : ρ <+: ρ') (k : Kp H H') : ∀ {fs : Fs} {gs : List (Str × V)}, FR G ρ H fs gs → FR G ρ' H' fs gs
  | [], _, z => z
  | (i, d) :: r, gs, z => by
    unfold FR at z ⊢
    obtain ⟨x, v, s, e, n, q, t⟩ := z
    exact ⟨x, v, s, e, n, q.mono p k, FR.mono p k t⟩
theorem FR.length : ∀ {fs : Fs} {gs : List (Str × V)}, FR G ρ H fs gs → gs.length = fs.length
  | [], _, z => by unfold FR at z; rw [z]; rfl
  | (i, d) :: r, gs, z => by
    unfold FR at z
    obtain ⟨x, v, s, e, _, _, t⟩ := z
    rw [e, List.length_cons, List.length_cons, FR.length t]
theorem nms_inj {l : List Str} (nd : l.Nodup) {i j : Nat} {x : Str} (a : l[i]? = some x) (b : l[j]? = some x) : i = j := L2.nodup_ix nd a b
theorem FR.get (nd : G.nms.Nodup) : ∀ {fs : Fs} {gs : List (Str × V)} {f : Nat} {x : Str} {d : D}, FR G ρ H fs gs → G.nms[f]? = some x → fget fs f = some d → ∃ v, gs.lookup x = some v ∧ R G.K ρ H d v
  | [], _, _, _, _, _, _, e => by simp [fget] at e
  | (i, d) :: r, gs, f, x, y, z, hx, e => by
    unfold FR at z
    obtain ⟨x', v, s, rfl, n, q, t⟩ := z
    unfold fget at e
    by_cases hf : f = i
    · rw [if_pos hf] at e
      cases e
      subst hf
      rw [hx] at n
      cases n
      exact ⟨v, by simp [List.lookup], q⟩
    · rw [if_neg hf] at e
      obtain ⟨w, h1, h2⟩ := FR.get nd t hx e
      have hne : x ≠ x' := fun z => hf (nms_inj nd hx (z ▸ n))
      refine ⟨w, ?_, h2⟩
      have : (x == x') = false := by simpa using hne
      simp [List.lookup, this, h1]
theorem FR.none (nd : G.nms.Nodup) : ∀ {fs : Fs} {gs : List (Str × V)} {f : Nat} {x : Str}, FR G ρ H fs gs → G.nms[f]? = some x → fget fs f = none → gs.lookup x = none
  | [], _, _, _, z, _, _ => by unfold FR at z; rw [z]; rfl
  | (i, d) :: r, gs, f, x, z, hx, e => by
    unfold FR at z
    obtain ⟨x', v, s, rfl, n, q, t⟩ := z
    unfold fget at e
    by_cases hf : f = i
    · rw [if_pos hf] at e; cases e
    · rw [if_neg hf] at e
      have hne : x ≠ x' := fun z => hf (nms_inj nd hx (z ▸ n))
      have : (x == x') = false := by simpa using hne
      simp [List.lookup, this, FR.none nd t hx e]
theorem FR.put (nd : G.nms.Nodup) : ∀ {fs : Fs} {gs : List (Str × V)} {f : Nat} {x : Str} {d : D} {v : V}, FR G ρ H fs gs → G.nms[f]? = some x → R G.K ρ H d v → FR G ρ H (fput f d fs) (putF x v gs)
  | [], _, f, x, d, v, z, hx, q => by
    unfold FR at z
    subst z
    unfold fput FR
    exact ⟨x, v, [], rfl, hx, q, by unfold FR; rfl⟩
  | (i, y) :: r, gs, f, x, d, v, z, hx, q => by
    unfold FR at z
    obtain ⟨x', w, s, rfl, n, qy, t⟩ := z
    unfold fput
    by_cases hf : f = i
    · rw [if_pos hf]
      subst hf
      rw [hx] at n
      cases n
      unfold FR
      exact ⟨x, v, s, by simp [putF], hx, q, t⟩
    · rw [if_neg hf]
      have hne : x ≠ x' := fun z => hf (nms_inj nd hx (z ▸ n))
      unfold FR
      refine ⟨x', w, putF x v s, ?_, n, qy, FR.put nd t hx q⟩
      simp [putF, hne, Ne.symm hne]
theorem RL.same {K : PySem.W.Frag} {ds : List D} {vs : List V} (k : Kp H H') (r : RL K ρ H ds vs) : RL K ρ H' ds vs := r.mono (List.prefix_refl _) k
theorem OR.same {a : Addr} {o : O} (e : H' a = H a) (p : ρ <+: ρ') (k : Kp H H') (z : OR G ρ H a o) : OR G ρ' H' a o := by
  cases o with
  | lst ds => obtain ⟨vs, q, r⟩ := z; exact ⟨vs, e.trans q, r.mono p k⟩
  | frz ds =>
    obtain ⟨vs, q, r⟩ := z
    refine ⟨vs, ?_, r.mono p k⟩
    rcases q with ⟨o, q⟩ | q
    · exact .inl ⟨o, e.trans q⟩
    · exact .inr q
  | ins c fs => obtain ⟨dx, gs, q, r, t⟩ := z; exact ⟨dx, gs, e.trans q, r.mono p k, t⟩
  | dic _ => exact z
theorem FR_wf {fr : List (Addr × List V)} : ∀ {fs : Fs} {gs : List (Str × V)}, FR (G.wf fr) ρ H fs gs ↔ FR G ρ H fs gs
  | [], gs => by unfold FR; exact Iff.rfl
  | (i, d) :: r, gs => by
    unfold FR
    exact exists_congr fun x => exists_congr fun v => exists_congr fun s => and_congr Iff.rfl (and_congr Iff.rfl (and_congr Iff.rfl FR_wf))
theorem OR_wf {fr : List (Addr × List V)} {a : Addr} {o : O} : OR (G.wf fr) ρ H a o ↔ OR G ρ H a o := by
  cases o with
  | lst _ => exact Iff.rfl
  | frz _ => exact Iff.rfl
  | dic _ => exact Iff.rfl
  | ins c fs =>
    exact exists_congr fun dx => exists_congr fun gs => and_congr Iff.rfl (and_congr FR_wf Iff.rfl)
/-- an object that the machine writes -/
def Wr (u : Option HO) : Prop := (∃ vs, u = some (.lst vs)) ∨ ∃ c dx fs, u = some (.ins c dx fs)
theorem Wr.notup {a : Addr} (w : Wr (H a)) : ∀ xs, H a ≠ some (.tup xs) := fun xs e => by
  rcases w with ⟨vs, q⟩ | ⟨c, dx, fs, q⟩ <;> (rw [e] at q; cases q)
theorem tabs_put {T : List (Addr × Str)} {a : Addr} {o : HO} (w : Wr (H a)) (t : LamX.Tabs T H) : LamX.Tabs T (upd H a o) := fun p hp => by
  obtain ⟨ps, h1, h2, h3⟩ := t p hp
  have n1 : p.1 ≠ a := fun z => by
    rw [z] at h1
    rcases w with ⟨vs, q⟩ | ⟨c, dx, fs, q⟩ <;> (rw [h1] at q; cases q)
  refine ⟨ps, (upd_ne n1).trans h1, h2, fun pos cv hc => ?_⟩
  obtain ⟨c, e1, e2⟩ := h3 pos cv hc
  have n2 : c ≠ a := fun z => by
    rw [z] at e2
    unfold LamX.CodeO at e2
    rcases w with ⟨vs, q⟩ | ⟨c, dx, fs, q⟩ <;> (rw [e2] at q; cases q)
  exact ⟨c, e1, (upd_ne n2).trans e2⟩
theorem tabs_new {T : List (Addr × Str)} {a : Addr} {o : HO} (n : H a = none) (t : LamX.Tabs T H) : LamX.Tabs T (upd H a o) := t.ext fun b u e => (upd_ne (ne_of_none e n)).trans e
/-- a new or a changed object elsewhere -/
theorem OR.upd {a b : Addr} {o : O} {u : HO} (z : OR G ρ H a o) (n : H b = Option.none ∨ (Wr (H b) ∧ (o.own = true → a ≠ b))) (k : Kp H (L2.upd H b u)) (p : ρ <+: ρ') : OR G ρ' (L2.upd H b u) a o := by
  by_cases e : a = b
  · subst e
    cases o with
    | lst ds =>
      obtain ⟨vs, q, _⟩ := z
      rcases n with n | ⟨_, n⟩
      · rw [n] at q; cases q
      · exact absurd rfl (n rfl)
    | ins c fs =>
      obtain ⟨_, _, q, _⟩ := z
      rcases n with n | ⟨_, n⟩
      · rw [n] at q; cases q
      · exact absurd rfl (n rfl)
    | dic _ => exact z.elim
    | frz ds =>
      obtain ⟨vs, q, r⟩ := z
      refine ⟨vs, .inr ?_, r.mono p k⟩
      rcases q with ⟨o, q⟩ | q
      · rcases n with n | ⟨w, _⟩
        · rw [n] at q; cases q
        · rcases w with ⟨vs, w⟩ | ⟨_, _, _, w⟩ <;> (rw [w] at q; cases q)
      · exact q
  · exact z.same (upd_ne e) p k
theorem HR.to (r : HR G ρ h H) {l : Nat} {o : O} (e : h[l]? = some o) : ∃ a, ρ[l]? = some a ∧ OR G ρ H a o := by
  have h1 := (List.getElem?_eq_some_iff.mp e).1
  rw [← r.len] at h1
  exact ⟨ρ[l], by simp [h1], r.obj l _ o (by simp [h1]) e⟩
theorem HR.lt (r : HR G ρ h H) {l : Nat} {a : Addr} (e : ρ[l]? = some a) : ∃ o, h[l]? = some o := by
  have h1 := (List.getElem?_eq_some_iff.mp e).1
  rw [r.len] at h1
  exact ⟨h[l], by simp [h1]⟩
theorem HR.junk {p : Addr} {u : HO} (r : HR G ρ h H) (n : H p = none) : HR G ρ h (upd H p u) :=
  ⟨r.len, r.nd, fun l a o e1 e2 => (r.obj l a o e1 e2).upd (.inl n) (Kp.new n) (List.prefix_refl _), tabs_new n r.tab, fun q hq => ⟨by rw [upd_ne (ne_of_none (r.frm q hq).1 n)]; exact (r.frm q hq).1, (r.frm q hq).2⟩, r.frn⟩
theorem HR.alloc {p : Addr} {u : HO} {o : O} (r : HR G ρ h H) (n : H p = none) (z : OR G (ρ ++ [p]) (upd H p u) p o) (ho : o.own = true) : HR G (ρ ++ [p]) (h ++ [o]) (upd H p u) := by
  have sp : ∀ {l : Nat} {a : Addr} {o' : O}, (ρ ++ [p])[l]? = some a → (h ++ [o])[l]? = some o' → (ρ[l]? = some a ∧ h[l]? = some o') ∨ (l = h.length ∧ a = p ∧ o' = o) := fun {l a o'} e1 e2 => by
    by_cases hl : l < h.length
    · rw [List.getElem?_append_left (by rw [r.len]; exact hl)] at e1
      rw [List.getElem?_append_left hl] at e2
      exact .inl ⟨e1, e2⟩
    · have hlt := (List.getElem?_eq_some_iff.mp e2).1
      simp at hlt
      have : l = h.length := by omega
      subst this
      rw [List.getElem?_append_right (Nat.le_refl _)] at e2
      rw [← r.len, List.getElem?_append_right (Nat.le_refl _)] at e1
      simp at e1 e2
      exact .inr ⟨rfl, e1.symm, e2.symm⟩
  have old : ∀ {l : Nat} {o' : O}, ρ[l]? = some p → h[l]? = some o' → o'.own = true → False := fun {l o'} e1 e2 w => by
    have q := r.obj l p o' e1 e2
    cases o' with
    | lst ds => obtain ⟨_, q, _⟩ := q; rw [n] at q; cases q
    | ins c fs => obtain ⟨_, _, q, _⟩ := q; rw [n] at q; cases q
    | dic _ => exact q
    | frz _ => cases w
  refine ⟨by simp [r.len], fun l l' a o1 o2 e1 e2 e3 e4 w1 w2 => ?_, fun l a o' e1 e2 => ?_, tabs_new n r.tab, fun q hq => ⟨by rw [upd_ne (ne_of_none (r.frm q hq).1 n)]; exact (r.frm q hq).1, fun l o' e1 e2 w => ?_⟩, r.frn⟩
  · rcases sp e1 e3 with ⟨a1, a2⟩ | ⟨a1, a2, a3⟩ <;> rcases sp e2 e4 with ⟨b1, b2⟩ | ⟨b1, b2, b3⟩
    · exact r.nd l l' a o1 o2 a1 b1 a2 b2 w1 w2
    · subst b2; exact (old a1 a2 w1).elim
    · subst a2; exact (old b1 b2 w2).elim
    · rw [a1, b1]
  · rcases sp e1 e2 with ⟨a1, a2⟩ | ⟨a1, a2, a3⟩
    · exact (r.obj l a o' a1 a2).upd (.inl n) (Kp.new n) (List.prefix_append _ _)
    · subst a2; subst a3; exact z
  · rcases sp e1 e2 with ⟨a1, a2⟩ | ⟨a1, a2, a3⟩
    · exact (r.frm q hq).2 l o' a1 a2 w
    · have := (r.frm q hq).1
      rw [a2, n] at this
      cases this
theorem HR.put {l : Nat} {a : Addr} {u : HO} {o o' : O} (r : HR G ρ h H) (e1 : ρ[l]? = some a) (e2 : h[l]? = some o') (w : Wr (H a)) (w' : o'.own = true) (wo : o.own = true) (z : OR G ρ (upd H a u) a o) : HR G ρ (h.set l o) (upd H a u) := by
  have hl := (List.getElem?_eq_some_iff.mp e2).1
  have sp : ∀ {m : Nat} {o1 : O}, (h.set l o)[m]? = some o1 → (m ≠ l ∧ h[m]? = some o1) ∨ (m = l ∧ o1 = o) := fun {m o1} e => by
    by_cases hm : m = l
    · subst hm
      rw [List.getElem?_set_self hl] at e
      exact .inr ⟨rfl, (Option.some.inj e).symm⟩
    · rw [List.getElem?_set_ne (Ne.symm hm)] at e
      exact .inl ⟨hm, e⟩
  have k : Kp H (upd H a u) := Kp.upd w.notup
  refine ⟨by simp [r.len], fun m m' b o1 o2 f1 f2 f3 f4 w1 w2 => ?_, fun m b o1 f1 f2 => ?_, tabs_put w r.tab, fun q hq => ⟨by rw [upd_ne fun z => (r.frm q hq).2 l o' (by rw [z]; exact e1) e2 w']; exact (r.frm q hq).1, fun m o1 f1 f2 wo => ?_⟩, r.frn⟩
  · rcases sp f3 with ⟨a1, a2⟩ | ⟨a1, a2⟩ <;> rcases sp f4 with ⟨b1, b2⟩ | ⟨b1, b2⟩
    · exact r.nd m m' b o1 o2 f1 f2 a2 b2 w1 w2
    · subst b1; exact r.nd m m' b o1 o' f1 f2 a2 e2 w1 w'
    · subst a1; exact r.nd m m' b o' o2 f1 f2 e2 b2 w' w2
    · rw [a1, b1]
  · rcases sp f2 with ⟨a1, a2⟩ | ⟨a1, a2⟩
    · refine (r.obj m b o1 f1 a2).upd (.inr ⟨w, fun wo1 q => a1 ?_⟩) k (List.prefix_refl _)
      subst q
      exact r.nd m l b o1 o' f1 e1 a2 e2 wo1 w'
    · subst a1; subst a2
      rw [e1] at f1; cases f1
      exact z
  · rcases sp f2 with ⟨a1, a2⟩ | ⟨a1, a2⟩
    · exact (r.frm q hq).2 m o1 f1 a2 wo
    · subst a1
      exact (r.frm q hq).2 m o' f1 e2 w'
/-- a list under way is begun -/
theorem HR.begin {p : Addr} {vs : List V} (r : HR G ρ h H) (n : H p = none) : HR (G.wf ((p, vs) :: G.fr)) ρ h (L2.upd H p (.lst vs)) := by
  have j := r.junk (u := .lst vs) n
  refine ⟨j.len, j.nd, fun l a o e1 e2 => ?_, j.tab, fun q hq => ?_, ?_⟩
  · exact OR_wf.mpr (j.obj l a o e1 e2)
  · have hq : q ∈ (p, vs) :: G.fr := hq
    rcases List.mem_cons.mp hq with e | hq
    · subst e
      refine ⟨upd_same, fun l o e1 e2 w => ?_⟩
      have q := r.obj l p o e1 e2
      cases o with
      | lst ds => obtain ⟨_, q, _⟩ := q; rw [n] at q; cases q
      | ins c fs => obtain ⟨_, _, q, _⟩ := q; rw [n] at q; cases q
      | dic _ => exact q
      | frz _ => cases w
    · exact j.frm q hq
  · show (((p, vs) :: G.fr).map (·.1)).Nodup
    rw [List.map_cons, List.nodup_cons]
    refine ⟨fun hm => ?_, r.frn⟩
    obtain ⟨q, hq, e⟩ := List.mem_map.mp hm
    have := (r.frm q hq).1
    rw [e, n] at this
    cases this
/-- it grows -/
theorem HR.grow {fr : List (Addr × List V)} {p : Addr} {vs ws : List V} (r : HR (G.wf ((p, vs) :: fr)) ρ h H) : HR (G.wf ((p, ws) :: fr)) ρ h (L2.upd H p (.lst ws)) := by
  obtain ⟨h1, h2⟩ := r.frm (p, vs) (List.mem_cons_self : (p, vs) ∈ (p, vs) :: fr)
  have k : Kp H (L2.upd H p (.lst ws)) := Kp.upd fun xs z => by rw [h1] at z; cases z
  have nd : (((p, vs) :: fr).map (·.1)).Nodup := r.frn
  refine ⟨r.len, r.nd, fun l a o e1 e2 => ?_, tabs_put (.inl ⟨vs, h1⟩) r.tab, fun q hq => ?_, ?_⟩
  · exact OR_wf.mpr ((OR_wf.mp (r.obj l a o e1 e2)).upd (b := p) (u := .lst ws) (.inr ⟨.inl ⟨vs, h1⟩, fun w z => h2 l o (by rw [← z]; exact e1) e2 w⟩) k (List.prefix_refl _))
  · have hq : q ∈ (p, ws) :: fr := hq
    rcases List.mem_cons.mp hq with e | hq
    · subst e
      exact ⟨upd_same, h2⟩
    · rw [List.map_cons, List.nodup_cons] at nd
      have ne : q.1 ≠ p := fun z => nd.1 (by rw [← z]; exact List.mem_map_of_mem (f := (·.1)) hq)
      obtain ⟨z1, z2⟩ := r.frm q (List.mem_cons_of_mem _ hq : q ∈ (p, vs) :: fr)
      exact ⟨by rw [upd_ne ne]; exact z1, z2⟩
  · show (((p, ws) :: fr).map (·.1)).Nodup
    rw [List.map_cons] at nd ⊢
    exact nd
/-- it is let go -/
def del (H : Hp) (p : Addr) : Hp := fun a => if a = p then none else H a
theorem del_ne {p a : Addr} (e : a ≠ p) : del H p a = H a := if_neg e
theorem del_same {p : Addr} : del H p p = none := if_pos rfl
theorem del_upd {p : Addr} {u : HO} (e : H p = some u) : L2.upd (del H p) p u = H := by
  funext a
  by_cases h : a = p
  · subst h; rw [upd_same, e]
  · rw [upd_ne h, del_ne h]
theorem Kp.del {p : Addr} {vs : List V} (e : H p = some (.lst vs)) : Kp H (del H p) := fun a xs h => by
  have : a ≠ p := fun z => by rw [z, e] at h; cases h
  rw [del_ne this]; exact h
theorem HR.stop {fr : List (Addr × List V)} {p : Addr} {vs : List V} (r : HR (G.wf ((p, vs) :: fr)) ρ h H) : HR (G.wf fr) ρ h (del H p) := by
  obtain ⟨h1, h2⟩ := r.frm (p, vs) (List.mem_cons_self : (p, vs) ∈ (p, vs) :: fr)
  have k : Kp H (del H p) := Kp.del h1
  have nd : (((p, vs) :: fr).map (·.1)).Nodup := r.frn
  rw [List.map_cons, List.nodup_cons] at nd
  refine ⟨r.len, r.nd, fun l a o e1 e2 => ?_, fun q hq => ?_, fun q hq => ?_, nd.2⟩
  · have z := r.obj l a o e1 e2
    by_cases e : a = p
    · subst e
      cases o with
      | lst ds => exact (h2 l _ e1 e2 rfl).elim
      | ins c fs => exact (h2 l _ e1 e2 rfl).elim
      | dic _ => exact z.elim
      | frz ds =>
        obtain ⟨vs', q, rr⟩ := z
        refine ⟨vs', .inr ?_, rr.mono (List.prefix_refl _) k⟩
        rcases q with ⟨o, q⟩ | q
        · rw [h1] at q; cases q
        · exact q
    · exact OR_wf.mpr ((OR_wf.mp z).same (H' := del H p) (ρ' := ρ) (del_ne e) (List.prefix_refl _) k)
  · obtain ⟨ps, t1, t2, t3⟩ := r.tab q hq
    have n1 : q.1 ≠ p := fun z => by
      rw [z] at t1; rw [t1] at h1; cases h1
    refine ⟨ps, (del_ne n1).trans t1, t2, fun pos cv hc => ?_⟩
    obtain ⟨c, e1, e2⟩ := t3 pos cv hc
    have n2 : c ≠ p := fun z => by
      rw [z] at e2
      unfold LamX.CodeO at e2
      rw [e2] at h1; cases h1
    exact ⟨c, e1, (del_ne n2).trans e2⟩
  · have ne : q.1 ≠ p := fun z => nd.1 (by rw [← z]; exact List.mem_map_of_mem (f := (·.1)) hq)
    obtain ⟨z1, z2⟩ := r.frm q (List.mem_cons_of_mem _ hq : q ∈ (p, vs) :: fr)
    exact ⟨by rw [del_ne ne]; exact z1, z2⟩
end
/-! ### slots -/
def SR (K : PySem.W.Frag) (ρ : Rho) (H : Hp) (ds : Sl) (σ : L2.St) : Prop := ds.length = σ.length ∧ ∀ i d, sget ds i = some d → ∃ v, σ[i]? = some (some v) ∧ R K ρ H d v
theorem sget_eq : ∀ (ds : Sl) (i : Nat), sget ds i = (ds[i]?).join
  | [], i => by simp [sget]
  | a :: r, 0 => by simp [sget]
  | a :: r, i + 1 => by simp [sget, sget_eq r i]
section
variable {K : PySem.W.Frag} {ρ ρ' : Rho} {H H' : Hp} {ds : Sl} {σ : L2.St}
theorem SR.mono (p : ρ <+: ρ') (k : Kp H H') (s : SR K ρ H ds σ) : SR K ρ' H' ds σ := ⟨s.1, fun i d e => by
  obtain ⟨v, h1, h2⟩ := s.2 i d e
  exact ⟨v, h1, h2.mono p k⟩⟩
theorem SR.set {i : Nat} {d : D} {v : V} (s : SR K ρ H ds σ) (r : R K ρ H d v) : SR K ρ H (asg1 ds i d) (σ.set i (some v)) := by
  refine ⟨by simp [asg1, s.1], fun j e h => ?_⟩
  rw [sget_eq] at h
  unfold asg1 at h
  by_cases hj : j = i
  · subst hj
    by_cases hl : j < ds.length
    · rw [List.getElem?_set_self hl] at h
      cases h
      exact ⟨v, by rw [List.getElem?_set_self (by rw [← s.1]; exact hl)], r⟩
    · rw [List.getElem?_eq_none (by simpa using hl)] at h
      cases h
  · rw [List.getElem?_set_ne (Ne.symm hj)] at h
    obtain ⟨w, h1, h2⟩ := s.2 j e (by rw [sget_eq]; exact h)
    exact ⟨w, by rw [List.getElem?_set_ne (Ne.symm hj)]; exact h1, h2⟩
theorem SR.wipe (s : SR K ρ H ds σ) : ∀ own : List (Str × Nat), SR K ρ H (wip ds own) (L2.wipe σ (own.map (·.2)))
  | [] => s
  | v :: vs => by
    have ih := SR.wipe s vs
    refine ⟨by simp [wip, L2.wipe, ih.1], fun j e h => ?_⟩
    rw [sget_eq] at h
    show ∃ w, ((L2.wipe σ (vs.map (·.2))).set v.2 none)[j]? = _ ∧ _
    unfold wip at h
    by_cases hj : j = v.2
    · subst hj
      by_cases hl : v.2 < (wip ds vs).length
      · rw [List.getElem?_set_self hl] at h; cases h
      · rw [List.getElem?_eq_none (by simpa using hl)] at h; cases h
    · rw [List.getElem?_set_ne (Ne.symm hj)] at h
      obtain ⟨w, h1, h2⟩ := ih.2 j e (by rw [sget_eq]; exact h)
      exact ⟨w, by rw [List.getElem?_set_ne (Ne.symm hj)]; exact h1, h2⟩
theorem SR.start {args : List D} {vs : List V} {N : List Str} {fn : Fn} (r : RL K ρ H args vs) (hn : fn.n = N.length) : SR K ρ H (sl0 fn args) (L2.start N vs) := by
  have hl := r.length
  refine ⟨by simp [sl0, L2.start, hl, hn], fun i d h => ?_⟩
  rw [sget_eq] at h
  unfold sl0 at h
  by_cases hi : i < args.length
  · rw [List.getElem?_append_left (by simpa using hi), List.getElem?_map] at h
    cases e : args[i]? with
    | none => rw [e] at h; cases h
    | some x =>
      rw [e] at h
      cases h
      obtain ⟨v, h1, h2⟩ := r.get e
      refine ⟨v, ?_, h2⟩
      unfold L2.start
      rw [List.getElem?_append_left (by simp [hl, hi]), List.getElem?_map, h1]
      rfl
  · rw [List.getElem?_append_right (by simpa using hi), List.getElem?_replicate] at h
    split at h <;> cases h
end
/-! ### ends -/
/-- an error's fields -/
def XR (G : GL) (ρ : Rho) (H : Hp) (fs : Fs) (gs : List (Str × V)) : Prop := ∀ i d x, fget fs i = some d → G.nms[i]? = some x → ∃ v, gs.lookup x = some v ∧ R G.K ρ H d v
def Pst (G : GL) (W : XK) (ρ : Rho) (H : Hp) {α : Type} (r : Rs α) (P : α → Rho → AH → Hp → Prop) : Prop := match r with
  | .ok a h' => ∀ ρ' H', ρ <+: ρ' → Kp H H' → HR G ρ' h' H' → P a ρ' h' H'
  | .ex c fs h' => ∀ ρ' H' e gs, ρ <+: ρ' → Kp H H' → HR G ρ' h' H' → H' e = some (.xd gs) → XR G ρ' H' fs gs → W (.ref (G.cA c)) (some e) H'
  | .no => False
section
variable {G : GL} {W : XK} {ρ ρ' : Rho} {H H' : Hp} {α β : Type}
theorem Pst.bnd {r : Rs α} {f : α → AH → Rs β} {P : β → Rho → AH → Hp → Prop} (p : Pst G W ρ H (r.bnd f) P) : Pst G W ρ H r fun a ρ' h' H' => Pst G W ρ' H' (f a h') P := by
  cases r with
  | ok a h =>
    intro ρ' H' pre kp hr
    have p : Pst G W ρ H (f a h) P := p
    cases e : f a h with
    | ok b h2 => rw [e] at p; exact fun ρ2 H2 p2 k2 hr2 => p ρ2 H2 (pre.trans p2) (kp.trans k2) hr2
    | ex c fs h2 => rw [e] at p; exact fun ρ2 H2 x gs p2 k2 hr2 => p ρ2 H2 x gs (pre.trans p2) (kp.trans k2) hr2
    | no => rw [e] at p; exact p
  | ex c fs h => exact p
  | no => exact p
theorem Pst.mono {r : Rs α} {P Q : α → Rho → AH → Hp → Prop} (p : Pst G W ρ H r P) (h : ∀ a ρ' h' H', ρ <+: ρ' → Kp H H' → HR G ρ' h' H' → P a ρ' h' H' → Q a ρ' h' H') : Pst G W ρ H r Q := by
  cases r with
  | ok a h1 => exact fun ρ' H' pre kp hr => h _ _ _ _ pre kp hr (p ρ' H' pre kp hr)
  | ex c fs h => exact p
  | no => exact p
theorem Pst.here {a : α} {h : AH} {P : α → Rho → AH → Hp → Prop} (p : Pst G W ρ H (.ok a h) P) (hr : HR G ρ h H) : P a ρ h H := p ρ H (List.prefix_refl _) (Kp.refl _) hr
theorem Pst.opt {o : Option α} {h : AH} {P : α → Rho → AH → Hp → Prop} (p : Pst G W ρ H (optR o h) P) : ∃ a, o = some a ∧ Pst G W ρ H (.ok a h) P := by
  cases o with
  | none => exact p.elim
  | some a => exact ⟨a, rfl, p⟩
theorem Pst.ite {c : Prop} [Decidable c] {r : Rs α} {P : α → Rho → AH → Hp → Prop} (p : Pst G W ρ H (if c then r else .no) P) : c ∧ Pst G W ρ H r P := by
  by_cases h : c
  · rw [if_pos h] at p; exact ⟨h, p⟩
  · rw [if_neg h] at p; exact p.elim
end
end Ms

/-! The machine's expressions in the model. -/
namespace Ms
open PySem PySem.Spec PyProof.Rows L2 Mx

theorem PE.by {X : Cx} {e : Expr} {t' : TE} (h : ∀ σ H Q, t' σ H Q → ∃ t, PE X e t ∧ t σ H Q) : PE X e t' := ⟨fun pins s σ H Q I w => by
  obtain ⟨t, p, q⟩ := h σ H Q w
  exact p.run pins s σ H Q I q⟩
theorem PE.imp {X : Cx} {e : Expr} {t t' : TE} (p : PE X e t) (h : ∀ σ H Q, t' σ H Q → t σ H Q) : PE X e t' := PE.by fun σ H Q w => ⟨t, p, h σ H Q w⟩
theorem PT.by {X : Cx} {e : Expr} {t' : TT} (h : ∀ σ H Q, t' σ H Q → ∃ t, PT X e t ∧ t σ H Q) : PT X e t' := ⟨fun pins s σ H Q I w => by
  obtain ⟨t, p, q⟩ := h σ H Q w
  exact p.run pins s σ H Q I q⟩
theorem PA.by {X : Cx} {e : List Expr} {t' : L2.TA} (h : ∀ σ H Q, t' σ H Q → ∃ t, PA X e t ∧ t σ H Q) : PA X e t' := ⟨fun pos pins s σ H Q I w => by
  obtain ⟨t, p, q⟩ := h σ H Q w
  exact p.run pos pins s σ H Q I q⟩
theorem PS.by {X : Cx} {e : Stmt} {t' : TS} (h : ∀ D σ H, t' D σ H → ∃ t, PS X e t ∧ t D σ H) : PS X e t' := ⟨fun pins s σ H D I w => by
  obtain ⟨t, p, q⟩ := h D σ H w
  exact p.run pins s σ H D I q⟩
theorem PSs.by {X : Cx} {e : List Stmt} {t' : TS} (h : ∀ D σ H, t' D σ H → ∃ t, PSs X e t ∧ t D σ H) : PSs X e t' := ⟨fun pins s σ H D I w => by
  obtain ⟨t, p, q⟩ := h D σ H w
  exact p.run pins s σ H D I q⟩

/-! ### readings -/
def wAt (W : WX) (σ : L2.St) : XK := fun c d H => W c d σ H
def rd (G : GL) (W : WX) {α : Type} (m : M α) (σ : L2.St) (H : Hp) (P : α → Rho → AH → Hp → Prop) : Prop :=
  ∃ ρ ds h, SR G.K ρ H ds σ ∧ HR G ρ h H ∧ Pst G (wAt W σ) ρ H (m ds h) P
def pV (G : GL) (Q : VK) : D → Rho → AH → Hp → Prop := fun d ρ _ H => ∀ v, R G.K ρ H d v → Q v H
def pL (G : GL) (Q : List V → Hp → Prop) : List D → Rho → AH → Hp → Prop := fun ds ρ _ H => ∀ vs, RL G.K ρ H ds vs → Q vs H
def pB (Q : Bool → Hp → Prop) : Bool → Rho → AH → Hp → Prop := fun b _ _ H => Q b H
def tE (G : GL) (W : WX) (m : M D) : TE := fun σ H Q => rd G W m σ H (pV G Q)
def tA (G : GL) (W : WX) (m : M (List D)) : L2.TA := fun σ H Q => rd G W m σ H (pL G Q)
def tT (G : GL) (W : WX) (m : M Bool) : TT := fun σ H Q => rd G W m σ H (pB Q)
/-- a def's promise: what the machine makes of it -/
def spM (G : GL) (g : List D → AH → Rs D) (n : Nat) : Sp := fun vs H Q E => vs.length = n ∧ ∃ fr ρ ds h, HR (G.wf fr) ρ h H ∧ RL G.K ρ H ds vs ∧ Pst (G.wf fr) E ρ H (g ds h) (pV (G.wf fr) Q)
/-- the built-in names that the machine calls -/
def bltNames : List Str := ["len", "int", "str", "tuple", "all", "any", "sum", "isinstance", "list", "sorted", "set", "range", "enumerate", "bool"]
/-- one field, or two -/
def xfl : List Nat → Bool
  | [_] => true
  | [i, j] => decide (i ≠ j)
  | _ => false
/-- what is known of the program, whatever runs -/
structure GF (G : GL) : Prop where
  nnd : G.nms.Nodup
  glo : ∀ x d, G.cons.lookup x = some d → ∃ u v, G.mg x = some u ∧ RelV v u ∧ ∀ ρ H, R G.K ρ H d v
  fn : ∀ f x, G.fN f = some x → G.mg x = some (.ref (G.FA f)) ∧ PySem.W.keepIn G.K (.ref (G.FA f)) = true
  bin : ∀ f, G.P.fn f ≠ none → Binds G.K (G.FD f) (G.PS f) []
  cls : ∀ c x, G.cN c = some x → G.mg x = some (.ref (G.cA c))
  ins : ∀ c f, G.P.ini c = some f → Cls G.K (G.cA c) ∧ Mk G.K (G.cA c) (G.FA f)
  nat : ∀ c g f x, G.P.ini c = some g → G.P.md c f = none → G.nms[f]? = some x → NoAttr G.K (G.cA c) x
  blt : ∀ x ∈ bltNames, G.mg x = none
  mth : ∀ c m f x, G.P.md c m = some f → G.nms[m]? = some x → Meth G.K (G.cA c) x (G.FA f) ∧ Cls G.K (G.cA c)
  xcl : ∀ c l, G.P.xf c = some l → OexC G.K (G.cA c) ∧ XfC G.K (G.cA c) ∧ PySem.W.findIn G.K (.ref (G.cA c)) "__init__" = some (some (.ref (G.XA c))) ∧ PySem.W.typeIn G.K (.ref (G.XA c)) = some (.type "function") ∧ Binds G.K (G.XD c) (G.XS c) [] ∧ xfl l = true ∧ (∀ i ∈ l, i < G.nms.length)
  xno : ∀ c l f x, G.P.xf c = some l → f ∈ l → G.nms[f]? = some x → PySem.W.findIn G.K (.ref (G.cA c)) x = some none
  kb : ∀ f m ks, (f, m, ks) ∈ G.kws → ∀ (s : Shared) (us ws : List Value), G.K.In s.heap → us.length = m → ws.length = ks.length → BindsTo s (G.FD f) ⟨us, ks.zip ws⟩ ((G.PS f).zip (us ++ ws))
  exm : ∀ c c', (G.P.xf c).isSome = true → (G.P.xf c').isSome = true → PySem.W.exmOne G.K (.ref (G.cA c)) (.ref (G.cA c')) = some (decide (c = c'))
/-- an error's maker: its fields are laid in its dict -/
def nmI (G : GL) (i : Nat) : Str := G.nms.getD i Str.empty
def spX (G : GL) (c : Nat) (l : List Nat) : Sp := fun vs H Q _ => vs.length = l.length + 1 ∧ ∃ a ws, vs = .ref a :: ws ∧ H a = some (exo a (G.cA c) none) ∧
  ∀ d, H d = none → d ≠ a → Q .non (upd (upd H d (exd d ((l.map (nmI G)).zip ws).reverse)) a (exo a (G.cA c) (some d)))
/-- the names as they run: of the kinds that the text tells -/
structure ScOk (sc : List (Str × NameKind)) (X : Cx) : Prop where
  loc : ∀ x, sc.lookup x = some .local → X.env.scope.names.lookup x = some .local
  cel : ∀ x, sc.lookup x = some .cell → X.env.scope.names.lookup x = some .cell ∧ X.fn x = true
  fre : ∀ x, sc.lookup x = some .free → X.env.scope.names.lookup x = some .cell ∨ X.env.scope.names.lookup x = some .free
  glo : ∀ x, sc.lookup x = some .globalImplicit → X.env.scope.names.lookup x = some .globalImplicit
/-- who gets a lambda: try: a() / except C as e: return e.y / return '' -/
structure RefD (G : GL) (x : Str) (c f : Nat) : Prop where
  ex : ∃ (g : Addr) (pg : Arguments) (bg : List Stmt) (sg : Scope) (dV kV doc pm cdv ct oc : Value) (an od : Option Addr) (osl : Array (Option Value)) (a n ex y : Str) (p1 p2 p3 p4 p5 p6 p7 p8 p9 p10 p11 : Pos) (j : Nat) (l : List Nat),
    G.mg x = some (.ref g) ∧ PySem.W.keepIn G.K (.ref g) = true ∧ G.K.lookup g = some ⟨oc, od, .func (PySem.W.fnOf x x pg bg sg dV kV doc pm an cdv ct), osl⟩ ∧ PySem.W.codeIn G.K cdv x = true ∧ Binds G.K (PySem.W.fnOf x x pg bg sg dV kV doc pm an cdv ct) [a] [] ∧
    FnScope [a, n] [a] sg ∧ sg.names.lookup a = some .local ∧ sg.names.lookup n = some .local ∧ sg.names.lookup ex = some .globalImplicit ∧ G.cN c = some ex ∧ G.P.xf c = some l ∧ f ∈ l ∧ G.nms[f]? = some y ∧
    (a == ("__debug__" : Str)) = false ∧ (a == ("__classdict__" : Str)) = false ∧ (n == ("__debug__" : Str)) = false ∧ (n == ("__classdict__" : Str)) = false ∧ (ex == ("__debug__" : Str)) = false ∧
    bg = [.Try [.Expr (.Call (.Name a p1) [] [] p2) p3] [.ExceptHandler (some (.Name ex p4)) (some n) [.Return (some (.Attribute (.Name n p5) y p6)) p7] p8] [] [] p9, .Return (some (.Constant (.str (sS [])) j p10)) p11]
/-- what the making of a lambda asks -/
def LamFacts (G : GL) (F : Cf) (X : Cx) : Prop := RefD G G.lrf.1 G.lrf.2.1 G.lrf.2.2 ∧ ∃ (k : Nat) (c P : Addr), Room (k + 3) X.A ∧ 1 ≤ k ∧ LamX.TabB X.base X.mg c P ∧ X.env.code = .ref c ∧ (P, X.env.qual ++ "<lambda>") ∈ G.T ∧ (∀ p ∈ G.T, p.1 = P → p.2 = X.env.qual ++ "<lambda>") ∧
  (∀ f, FnOk X.prog X.w X.K X.mg X.base (L2.CX X.prog X.w) (k + 1) (G.FA f) (G.FD f) (G.PS f) (spM G (F.cf f) (G.PS f).length) ∧ ∀ ds h, (G.P.fn f = none ∨ ds.length ≠ (G.PS f).length) → F.cf f ds h = .no) ∧
  (∀ f, FnOk X.prog X.w X.K X.mg X.base (L2.CX X.prog X.w) k (G.FA f) (G.FD f) (G.PS f) (spM G (F.mf f) (G.PS f).length) ∧ ∀ ds h, (G.P.fn f = none ∨ ds.length ≠ (G.PS f).length) → F.mf f ds h = .no) ∧
  (∀ c l, G.P.xf c = some l → FnOk X.prog X.w X.K X.mg X.base (L2.CX X.prog X.w) 1 (G.XA c) (G.XD c) (G.XS c) (spX G c l))
/-- where an expression is read -/
structure GX (G : GL) (F : Cf) (N : List Str) (sc : List (Str × NameKind)) (W : WX) (X : Cx) : Prop where
  gf : GF G
  K : X.K = G.K
  mg : X.mg = G.mg
  calm : X.calm = true
  hN : X.N = N
  nd : N.Nodup
  sco : ScOk sc X
  tk : Takes X W
  md : F.md = G.P.md
  ini : F.ini = G.P.ini
  cf : ∃ k, Room k X.A ∧ ∀ f, FnOk X.prog X.w X.K X.mg X.base (L2.CX X.prog X.w) k (G.FA f) (G.FD f) (G.PS f) (spM G (F.cf f) (G.PS f).length) ∧ ∀ ds h, (G.P.fn f = none ∨ ds.length ≠ (G.PS f).length) → F.cf f ds h = .no
  mf : ∃ k, Room (k + 1) X.A ∧ ∀ f, FnOk X.prog X.w X.K X.mg X.base (L2.CX X.prog X.w) k (G.FA f) (G.FD f) (G.PS f) (spM G (F.mf f) (G.PS f).length) ∧ ∀ ds h, (G.P.fn f = none ∨ ds.length ≠ (G.PS f).length) → F.mf f ds h = .no
  xk : ∃ k, Room (k + 1) X.A ∧ ∀ c l, G.P.xf c = some l → FnOk X.prog X.w X.K X.mg X.base (L2.CX X.prog X.w) k (G.XA c) (G.XD c) (G.XS c) (spX G c l)
  lm : sc = G.lsc → LamFacts G F X
def isVar (sc : List (Str × NameKind)) (x : Str) : Bool := match sc.lookup x with
  | some .local => true
  | some .cell => true
  | some .free => true
  | _ => false
def isLoc (sc : List (Str × NameKind)) (x : Str) : Bool := match sc.lookup x with
  | some .local => true
  | some .cell => true
  | _ => false
def isGlo (sc : List (Str × NameKind)) (x : Str) : Bool := decide (sc.lookup x = some .globalImplicit)
def plainN (x : Str) : Bool := !(x == ("__debug__" : Str)) && !(x == ("__classdict__" : Str)) && !decide (x = ("__name__" : Str))
theorem plainN1 {x : Str} (h : plainN x = true) : (x == ("__debug__" : Str)) = false := by
  unfold plainN at h
  simp only [Bool.and_eq_true, Bool.not_eq_true'] at h
  exact h.1.1
theorem plainN2 {x : Str} (h : plainN x = true) : (x == ("__classdict__" : Str)) = false := by
  unfold plainN at h
  simp only [Bool.and_eq_true, Bool.not_eq_true'] at h
  exact h.1.2
theorem plainN3 {x : Str} (h : plainN x = true) : x ≠ "__name__" := by
  unfold plainN at h
  simp only [Bool.and_eq_true, Bool.not_eq_true', decide_eq_false_iff_not] at h
  exact h.2
section
variable {G : GL} {F : Cf} {N : List Str} {sc : List (Str × NameKind)} {W : WX} {X : Cx}
theorem ScOk.vis (s : ScOk sc X) {x : Str} (h : isVar sc x = true) : Vis X.env.scope x := by
  unfold isVar at h
  cases e : sc.lookup x with
  | none => rw [e] at h; cases h
  | some k =>
    rw [e] at h
    cases k with
    | «local» => exact .inl (s.loc x e)
    | cell => exact .inr (.inl (s.cel x e).1)
    | free => exact .inr (s.fre x e)
    | globalExplicit => cases h
    | globalImplicit => cases h
theorem ScOk.locs (s : ScOk sc X) {x : Str} (h : isLoc sc x = true) : Loc X.env.scope x ∧ (X.fn x = true ∨ X.env.scope.names.lookup x = some .local) := by
  unfold isLoc at h
  cases e : sc.lookup x with
  | none => rw [e] at h; cases h
  | some k =>
    rw [e] at h
    cases k with
    | «local» => exact ⟨.inl (s.loc x e), .inr (s.loc x e)⟩
    | cell => exact ⟨.inr (s.cel x e).1, .inl (s.cel x e).2⟩
    | free => cases h
    | globalExplicit => cases h
    | globalImplicit => cases h
theorem ScOk.gl (s : ScOk sc X) {x : Str} (h : isGlo sc x = true) : Gl X x := s.glo x (of_decide_eq_true h)

/-- one expression, then what follows with its value -/
theorem one {β : Type} {ma : M D} {f : D → AH → Rs β} {P : β → Rho → AH → Hp → Prop} {σ : L2.St} {H : Hp} {R1 : V → Hp → Prop} (h : rd G W (fun s h => (ma s h).bnd f) σ H P)
    (k : ∀ ρ ds x h' H' v, SR G.K ρ H' ds σ → HR G ρ h' H' → R G.K ρ H' x v → Pst G (wAt W σ) ρ H' (f x h') P → R1 v H') : tE G W ma σ H R1 := by
  obtain ⟨ρ, ds, h0, sr, hr, p⟩ := h
  exact ⟨ρ, ds, h0, sr, hr, p.bnd.mono fun a ρ' h' H' pre kp hr' p' v rv => k ρ' ds a h' H' v (sr.mono pre kp) hr' rv p'⟩
/-- a row of them -/
theorem row {β : Type} {ma : M (List D)} {f : List D → AH → Rs β} {P : β → Rho → AH → Hp → Prop} {σ : L2.St} {H : Hp} {R1 : List V → Hp → Prop} (h : rd G W (fun s h => (ma s h).bnd f) σ H P)
    (k : ∀ ρ ds xs h' H' vs, SR G.K ρ H' ds σ → HR G ρ h' H' → RL G.K ρ H' xs vs → Pst G (wAt W σ) ρ H' (f xs h') P → R1 vs H') : tA G W ma σ H R1 := by
  obtain ⟨ρ, ds, h0, sr, hr, p⟩ := h
  exact ⟨ρ, ds, h0, sr, hr, p.bnd.mono fun a ρ' h' H' pre kp hr' p' v rv => k ρ' ds a h' H' v (sr.mono pre kp) hr' rv p'⟩
/-- two expressions -/
theorem two {β : Type} {ma mb : M D} {f : D → D → AH → Rs β} {P : β → Rho → AH → Hp → Prop} {σ : L2.St} {H : Hp} {R2' : V → V → Hp → Prop} (h : rd G W (fun s h => (ma s h).bnd fun x h1 => (mb s h1).bnd fun y h2 => f x y h2) σ H P)
    (k : ∀ ρ ds x y h' H' v w, SR G.K ρ H' ds σ → HR G ρ h' H' → R G.K ρ H' x v → R G.K ρ H' y w → Pst G (wAt W σ) ρ H' (f x y h') P → R2' v w H') : tE G W ma σ H fun v H1 => tE G W mb σ H1 fun w H2 => R2' v w H2 := by
  obtain ⟨ρ, ds, h0, sr, hr, p⟩ := h
  refine ⟨ρ, ds, h0, sr, hr, p.bnd.mono fun a ρ' h' H' pre kp hr' p' v rv => ?_⟩
  refine ⟨ρ', ds, h', sr.mono pre kp, hr', p'.bnd.mono fun b ρ2 h2 H2 pre2 kp2 hr2 p2 w rw' => ?_⟩
  exact k ρ2 ds a b h2 H2 v w (sr.mono (pre.trans pre2) (kp.trans kp2)) hr2 (rv.mono pre2 kp2) rw' p2
theorem pvar (g : GX G F N sc W X) {i : Nat} {x : Str} {p : Pos} (h1 : N[i]? = some x) (h2 : isVar sc x = true) (h3 : plainN x = true) : PE X (E.var i x p).src (tE G W (ev F (.var i x p))) := by
  refine PE.imp (pe_var (i := i) (by rw [g.hN]; exact h1) (g.sco.vis h2) (plainN1 h3) (plainN2 h3)) fun σ H Q ⟨ρ, ds, h, sr, hr, q⟩ => ?_
  obtain ⟨d, e, q⟩ := Pst.opt q
  obtain ⟨v, h1, h2⟩ := sr.2 i d e
  exact ⟨v, h1, q.here hr v h2⟩
def scalD : D → Bool
  | .tup _ => false
  | .ref _ => false
  | _ => true
theorem pcst {d : D} {p : Pos} (h : scalD d = true) : PE X (E.cst d p).src (tE G W (ev F (.cst d p))) := by
  cases d with
  | non => exact PE.imp pe_non fun σ H Q ⟨ρ, ds, h, sr, hr, q⟩ => Pst.here q hr _ (by unfold R; rfl)
  | bl b => exact PE.imp pe_bl fun σ H Q ⟨ρ, ds, h, sr, hr, q⟩ => Pst.here q hr _ (by unfold R; rfl)
  | int i => exact PE.imp pe_int fun σ H Q ⟨ρ, ds, h, sr, hr, q⟩ => Pst.here q hr _ (by unfold R; rfl)
  | str x => exact PE.imp pe_str fun σ H Q ⟨ρ, ds, h, sr, hr, q⟩ => Pst.here q hr _ (by unfold R; rfl)
  | tup _ => cases h
  | ref _ => cases h
theorem pglo (g : GX G F N sc W X) {d : D} {x : Str} {p : Pos} (h1 : G.cons.lookup x = some d) (h2 : isGlo sc x = true) (h3 : plainN x = true) : PE X (E.glo d x p).src (tE G W (ev F (.glo d x p))) := by
  obtain ⟨u, v, e, r, q⟩ := g.gf.glo x d h1
  refine PE.imp (pe_glob (v := v) (g.sco.gl h2) (by rw [g.mg]; exact e) r (plainN1 h3)) fun σ H Q ⟨ρ, ds, h, sr, hr, z⟩ => ?_
  exact Pst.here z hr _ (q ρ H)
/-! ### new objects -/
theorem app_get (ρ : Rho) (a : Addr) (h : AH) (e : ρ.length = h.length) : (ρ ++ [a])[h.length]? = some a := by rw [← e]; simp
/-- a list is laid at p -/
theorem lay {P : D → Rho → AH → Hp → Prop} {Wk : XK} {ρ : Rho} {h : AH} {H : Hp} {ds : List D} {vs : List V} {p : Addr} (hr : HR G ρ h H) (r : RL G.K ρ H ds vs) (n : H p = none) (q : Pst G Wk ρ H (alloc (.lst ds) h) P) :
    P (.ref h.length) (ρ ++ [p]) (h ++ [.lst ds]) (upd H p (.lst vs)) ∧ HR G (ρ ++ [p]) (h ++ [.lst ds]) (upd H p (.lst vs)) ∧ R G.K (ρ ++ [p]) (upd H p (.lst vs)) (.ref h.length) (.ref p) := by
  have z : HR G (ρ ++ [p]) (h ++ [.lst ds]) (upd H p (.lst vs)) := hr.alloc n ⟨vs, upd_same, r.mono (List.prefix_append _ _) (Kp.new n)⟩ rfl
  exact ⟨q _ _ (List.prefix_append _ _) (Kp.new n) z, z, by unfold R; exact ⟨p, rfl, app_get ρ p h hr.len⟩⟩
theorem layV {Q : VK} {Wk : XK} {ρ : Rho} {h : AH} {H : Hp} {ds : List D} {vs : List V} {p : Addr} (hr : HR G ρ h H) (r : RL G.K ρ H ds vs) (n : H p = none) (q : Pst G Wk ρ H (alloc (.lst ds) h) (pV G Q)) :
    Q (.ref p) (upd H p (.lst vs)) := by
  obtain ⟨a, _, b⟩ := lay hr r n q
  exact a _ b
/-- a tuple at p: its value is told by its items -/
theorem tupV {Q : VK} {Wk : XK} {ρ : Rho} {h : AH} {H : Hp} {ds : List D} {vs : List V} {p : Addr} (hr : HR G ρ h H) (r : RL G.K ρ H ds vs) (n : H p = none) (q : Pst G Wk ρ H (.ok (.tup ds) h) (pV G Q)) : Q (.ref p) (upd H p (.tup vs)) := by
  refine q ρ _ (List.prefix_refl _) (Kp.new n) (hr.junk n) _ ?_
  unfold R
  exact ⟨p, vs, rfl, .inl upd_same, r.mono (List.prefix_refl _) (Kp.new n)⟩
theorem SZ_eq : SZ = sizeLine := by rw [sizeLine_eq]; rfl
theorem sS_len (x : List Nat) : (sS x).length = x.length := by simp [sS, Str.length]
theorem sS_app (x y : List Nat) : sS x ++ sS y = sS (x ++ y) := by
  show Str.append _ _ = _
  simp [Str.append, sS]
theorem sS_cps (x : List Nat) : (sS x).cps.toList = x := by simp [sS]
theorem sS_inj {x y : List Nat} : sS x = sS y ↔ x = y := by
  unfold sS
  constructor
  · intro h
    have := congrArg (fun z : Str => z.cps.toList) h
    simpa using this
  · intro h; rw [h]
end
end Ms

/-! Operators and comparisons of the machine in the model. -/
namespace Ms
open PySem PySem.Spec PyProof.Rows L2 Mx

section
variable {G : GL} {F : Cf} {N : List Str} {sc : List (Str × NameKind)} {W : WX} {X : Cx}
/-- by values: an operator of two -/
def r2M (G : GL) (f : D → D → AH → Rs D) : R2 := fun x y H Q => ∃ (ρ : Rho) (h : AH) (dx dy : D) (Wk : XK), HR G ρ h H ∧ R G.K ρ H dx x ∧ R G.K ρ H dy y ∧ Pst G Wk ρ H (f dx dy h) (pV G Q)
theorem pop2 {o : Operator} {f : D → D → AH → Rs D} {a b : E} {p : Pos} (ho : OpR X (binaryOp o) (r2M G f)) (ha : PE X a.src (tE G W (ev F a))) (hb : PE X b.src (tE G W (ev F b))) :
    PE X (.BinOp a.src o b.src p) (tE G W fun s h => (ev F a s h).bnd fun x h1 => (ev F b s h1).bnd fun y h2 => f x y h2) :=
  PE.imp (pe_op ho ha hb) fun σ H Q w => two w fun ρ ds x y h' H' v w sr hr r1 r2 q => ⟨ρ, h', x, y, _, hr, r1, r2, q⟩
theorem R.int {K : PySem.W.Frag} {ρ : Rho} {H : Hp} {i : Int} {v : V} (h : R K ρ H (.int i) v) : v = .int i := by unfold R at h; exact h
theorem R.bl {K : PySem.W.Frag} {ρ : Rho} {H : Hp} {i : Bool} {v : V} (h : R K ρ H (.bl i) v) : v = .bl i := by unfold R at h; exact h
theorem R.non {K : PySem.W.Frag} {ρ : Rho} {H : Hp} {v : V} (h : R K ρ H .non v) : v = .non := by unfold R at h; exact h
theorem R.str {K : PySem.W.Frag} {ρ : Rho} {H : Hp} {x : List Nat} {v : V} (h : R K ρ H (.str x) v) : v = .str (sS x) := by unfold R at h; exact h
theorem R.tup {K : PySem.W.Frag} {ρ : Rho} {H : Hp} {ds : List D} {v : V} (h : R K ρ H (.tup ds) v) : ∃ a vs, v = .ref a ∧ TA K H a vs ∧ RL K ρ H ds vs := by unfold R at h; exact h
theorem R.ref {K : PySem.W.Frag} {ρ : Rho} {H : Hp} {l : Nat} {v : V} (h : R K ρ H (.ref l) v) : ∃ a, v = .ref a ∧ ρ[l]? = some a := by unfold R at h; exact h
theorem R.ofInt {K : PySem.W.Frag} {ρ : Rho} {H : Hp} (i : Int) : R K ρ H (.int i) (.int i) := by unfold R; rfl
theorem R.ofBl {K : PySem.W.Frag} {ρ : Rho} {H : Hp} (i : Bool) : R K ρ H (.bl i) (.bl i) := by unfold R; rfl
theorem R.ofStr {K : PySem.W.Frag} {ρ : Rho} {H : Hp} (i : List Nat) : R K ρ H (.str i) (.str (sS i)) := by unfold R; rfl
theorem R.ofNon {K : PySem.W.Frag} {ρ : Rho} {H : Hp} : R K ρ H .non .non := by unfold R; rfl
theorem R.ofTup {K : PySem.W.Frag} {ρ : Rho} {H : Hp} {a : Addr} {ds : List D} {vs : List V} (t : TA K H a vs) (r : RL K ρ H ds vs) : R K ρ H (.tup ds) (.ref a) := by unfold R; exact ⟨a, vs, rfl, t, r⟩
/-- the value stands as it is -/
theorem hereV {Q : VK} {Wk : XK} {ρ : Rho} {h : AH} {H : Hp} {d : D} {v : V} (hr : HR G ρ h H) (q : Pst G Wk ρ H (.ok d h) (pV G Q)) (r : R G.K ρ H d v) : Q v H := q.here hr v r
/-- what a place holds -/
theorem HR.lst {ρ : Rho} {h : AH} {H : Hp} {l : Nat} {a : Addr} {xs : List D} (hr : HR G ρ h H) (e : ρ[l]? = some a) (q : h[l]? = some (.lst xs)) : ∃ vs, H a = some (.lst vs) ∧ RL G.K ρ H xs vs := hr.obj l a _ e q
theorem HR.frz {ρ : Rho} {h : AH} {H : Hp} {l : Nat} {a : Addr} {xs : List D} (hr : HR G ρ h H) (e : ρ[l]? = some a) (q : h[l]? = some (.frz xs)) : ∃ vs, FZ G.K H a vs ∧ RL G.K ρ H xs vs := hr.obj l a _ e q
theorem HR.ins {ρ : Rho} {h : AH} {H : Hp} {l : Nat} {a : Addr} {c : Nat} {fs : Fs} (hr : HR G ρ h H) (e : ρ[l]? = some a) (q : h[l]? = some (.ins c fs)) : ∃ dx gs, H a = some (.ins (G.cA c) dx gs) ∧ FR G ρ H fs gs ∧ (G.P.ini c).isSome = true ∧ ∀ p ∈ fs, G.P.md c p.1 = none := hr.obj l a _ e q
theorem HR.dic {ρ : Rho} {h : AH} {H : Hp} {l : Nat} {a : Addr} {xs : List (D × D)} (hr : HR G ρ h H) (e : ρ[l]? = some a) (q : h[l]? = some (.dic xs)) : False := hr.obj l a _ e q
/-- a list to be read, its items -/
theorem HR.seq {ρ : Rho} {h : AH} {H : Hp} {l : Nat} {a : Addr} {xs : List D} (hr : HR G ρ h H) (e : ρ[l]? = some a) (q : lstAt h l = some xs) : ∃ vs, SqL G.K H a vs ∧ RL G.K ρ H xs vs := by
  unfold lstAt at q
  split at q
  · rename_i ys hy
    cases q
    obtain ⟨vs, h1, h2⟩ := hr.lst e hy
    exact ⟨vs, .of h1, h2⟩
  · rename_i ys hy
    cases q
    obtain ⟨vs, h1, h2⟩ := hr.frz e hy
    exact ⟨vs, h1.sq, h2⟩
  · cases q

theorem op_binop (g : X.K = G.K) : ∀ o : BO, OpR X (binaryOp o.op) (r2M G (binop o)) := by
  intro o pins s σ H x y v u Q I rx ry ⟨ρ, h, dx, dy, Wk, hr, r1, r2, p⟩
  cases o with
  | add =>
    cases dx with
    | int i =>
      cases dy with
      | int j => exact op_add pins s σ H x y v u Q I rx ry ⟨i, j, r1.int, r2.int, hereV hr p (R.ofInt _)⟩
      | _ => exact False.elim p
    | str a =>
      cases dy with
      | str b =>
        obtain ⟨hz, p⟩ := Pst.ite p
        refine op_add_str pins s σ H x y v u Q I rx ry ⟨sS a, sS b, r1.str, r2.str, by rw [sS_len, sS_len, ← SZ_eq]; exact hz, ?_⟩
        rw [sS_app]
        exact hereV hr p (R.ofStr _)
      | _ => exact False.elim p
    | tup a =>
      cases dy with
      | tup b =>
        obtain ⟨hz, p⟩ := Pst.ite p
        obtain ⟨a1, vs, rfl, t1, l1⟩ := r1.tup
        obtain ⟨b1, ws, rfl, t2, l2⟩ := r2.tup
        refine op_catA pins s σ H _ _ v u Q I rx ry ⟨a1, b1, vs, ws, rfl, rfl, by rw [g]; exact t1.sq, by rw [g]; exact t2.sq, by rw [l1.length, l2.length, ← SZ_eq]; exact hz, fun e => ?_, fun _ e => ?_, fun _ _ q hq => ?_⟩
        · refine hereV hr p (R.ofTup t2 ?_)
          have : a = [] := by
            have := l1.length
            rw [e] at this
            exact List.eq_nil_of_length_eq_zero this.symm
          subst this
          exact l2
        · refine hereV hr p (R.ofTup t1 ?_)
          have : b = [] := by
            have := l2.length
            rw [e] at this
            exact List.eq_nil_of_length_eq_zero this.symm
          subst this
          rw [List.append_nil]
          exact l1
        · exact tupV hr (l1.app l2) hq p
      | _ => exact False.elim p
    | ref a =>
      cases dy with
      | ref b =>
        obtain ⟨a1, rfl, e1⟩ := r1.ref
        obtain ⟨b1, rfl, e2⟩ := r2.ref
        have p' : Pst G Wk ρ H (match h[a]?, h[b]? with
          | some (.lst xs), some (.lst ys) => if xs.length + ys.length ≤ SZ then alloc (.lst (xs ++ ys)) h else .no
          | _, _ => .no) (pV G Q) := p
        split at p'
        · rename_i xs ys h1 h2
          obtain ⟨hz, p'⟩ := Pst.ite p'
          obtain ⟨vs, q1, l1⟩ := hr.lst e1 h1
          obtain ⟨ws, q2, l2⟩ := hr.lst e2 h2
          exact op_cat pins s σ H _ _ v u Q I rx ry ⟨a1, b1, vs, ws, rfl, rfl, q1, q2, by rw [l1.length, l2.length, ← SZ_eq]; exact hz, fun q hq => layV hr (l1.app l2) hq p'⟩
        · exact False.elim p'
      | _ => exact False.elim p
    | _ => exact False.elim p
  | sub =>
    cases dx with
    | int i =>
      cases dy with
      | int j => exact op_sub pins s σ H x y v u Q I rx ry ⟨i, j, r1.int, r2.int, hereV hr p (R.ofInt _)⟩
      | _ => exact False.elim p
    | _ => exact False.elim p
  | mul =>
    cases dx with
    | int i =>
      cases dy with
      | int j =>
        obtain ⟨hz, p⟩ := Pst.ite p
        exact op_mul pins s σ H x y v u Q I rx ry ⟨i, j, r1.int, r2.int, hz, hereV hr p (R.ofInt _)⟩
      | _ => exact False.elim p
    | str a =>
      cases dy with
      | int j =>
        obtain ⟨⟨h1, h2, h3⟩, p⟩ := Pst.ite p
        cases r1.str
        cases r2.int
        obtain ⟨t, rfl⟩ := rx
        obtain ⟨t', rfl⟩ := ry
        have hf : (List.replicate j.toNat (sS a).cps).foldl (· ++ ·) #[] = (rep a j.toNat).toArray := by
          have key : ∀ (n : Nat) (acc : Array Nat), (List.replicate n (sS a).cps).foldl (· ++ ·) acc = acc ++ (rep a n).toArray := by
            intro n
            induction n with
            | zero => intro acc; simp [rep]
            | succ n ih =>
              intro acc
              rw [List.replicate_succ, List.foldl_cons, ih]
              simp [rep, sS, Array.append_assoc]
          rw [key, Array.empty_append]
        refine PySem.P.mul_str ?_ ?_ ?_ ?_
        · simp; omega
        · intro g1 _
          rw [sS_len]
          have e1 : (1000 : Int) ≤ (2 ^ 63 - 1) / j := by
            refine (Int.le_ediv_iff_mul_le (by omega)).mpr ?_
            omega
          omega
        · intro _ _
          rw [sS_len]
          have : a.length * j.toNat ≤ 1000 * 1000 := Nat.mul_le_mul h3 (by omega)
          show decide (a.length * j.toNat > sizeLine) = false
          rw [sizeLine_eq]
          exact decide_eq_false (by omega)
        · have hlen : (rep a j.toNat).length ≤ sizeLine := by
            have key : ∀ n : Nat, (rep a n).length = a.length * n := by
              intro n
              induction n with
              | zero => rfl
              | succ n ih => rw [rep, List.length_append, ih]; rw [Nat.mul_succ]; omega
            rw [key, sizeLine_eq]
            have : a.length * j.toNat ≤ 1000 * 1000 := Nat.mul_le_mul h3 (by omega)
            omega
          by_cases c1 : j < 1
          · rw [if_pos c1]
            have e0 : j.toNat = 0 := by omega
            refine ⟨by decide, ⟨.str (sS []), H, I.tok _, ⟨_, rfl⟩, ?_⟩⟩
            rw [e0] at p
            exact hereV hr p (R.ofStr _)
          · rw [if_neg c1]
            by_cases c2 : (j == 1 || (sS a).length == 0) = true
            · rw [if_pos c2]
              have er : rep a j.toNat = a := by
                simp only [Bool.or_eq_true, beq_iff_eq, sS_len] at c2
                rcases c2 with c2 | c2
                · subst c2; simp [rep]
                · have : a = [] := List.eq_nil_of_length_eq_zero c2
                  subst this
                  generalize j.toNat = n
                  induction n with
                  | zero => rfl
                  | succ n ih => simpa [rep] using ih
              rw [er] at p
              exact ⟨.str (sS a), H, I, ⟨_, rfl⟩, hereV hr p (R.ofStr _)⟩
            · rw [if_neg c2, hf]
              refine ⟨by simpa [Str.length] using hlen, ⟨.str (sS (rep a j.toNat)), H, I.tok _, ⟨_, rfl⟩, ?_⟩⟩
              exact hereV hr p (R.ofStr _)
      | _ => exact False.elim p
    | tup a =>
      cases dy with
      | int j =>
        obtain ⟨⟨h1, h2, h3, h4⟩, p⟩ := Pst.ite p
        obtain ⟨a1, vs, rfl, t1, l1⟩ := r1.tup
        refine op_repT pins s σ H _ y v u Q I rx ry ⟨a1, j, vs, rfl, r2.int, by rw [g]; exact t1.sq, ?_, h1, h2, by rw [l1.length]; exact h3, fun q hq => tupV hr (l1.rep _) hq p⟩
        rintro rfl
        rw [l1.nil_iff] at h4
        cases h4
      | _ => exact False.elim p
    | ref a =>
      cases dy with
      | int j =>
        obtain ⟨a1, rfl, e1⟩ := r1.ref
        have p' : Pst G Wk ρ H (match h[a]? with
          | some (.lst xs) => if 0 ≤ j ∧ j ≤ 1000 ∧ xs.length ≤ 1000 then alloc (.lst (rep xs j.toNat)) h else .no
          | _ => .no) (pV G Q) := p
        split at p'
        · rename_i xs h1
          obtain ⟨⟨g1, g2, g3⟩, p'⟩ := Pst.ite p'
          obtain ⟨vs, q1, l1⟩ := hr.lst e1 h1
          refine op_rep pins s σ H _ y v u Q I rx ry ⟨a1, j, vs, rfl, r2.int, q1, by omega, by omega, ?_, fun q hq => layV hr (l1.rep _) hq p'⟩
          rw [l1.length, ← SZ_eq]
          have : j.toNat ≤ 1000 := by omega
          exact Nat.le_trans (Nat.mul_le_mul g3 this) (by decide)
        · exact False.elim p'
      | _ => exact False.elim p
    | _ => exact False.elim p
  | fdiv =>
    cases dx with
    | int i =>
      cases dy with
      | int j =>
        obtain ⟨hz, p⟩ := Pst.ite p
        exact op_fdiv pins s σ H x y v u Q I rx ry ⟨i, j, r1.int, r2.int, hz, hereV hr p (R.ofInt _)⟩
      | _ => exact False.elim p
    | _ => exact False.elim p
  | mod =>
    cases dx with
    | int i =>
      cases dy with
      | int j =>
        obtain ⟨hz, p⟩ := Pst.ite p
        exact op_mod pins s σ H x y v u Q I rx ry ⟨i, j, r1.int, r2.int, hz, hereV hr p (R.ofInt _)⟩
      | _ => exact False.elim p
    | _ => exact False.elim p
  | pow =>
    cases dx with
    | int i =>
      cases dy with
      | int j =>
        obtain ⟨hz, p⟩ := Pst.ite p
        exact op_pow pins s σ H x y v u Q I rx ry ⟨i, j, r1.int, r2.int, hz, hereV hr p (R.ofInt _)⟩
      | _ => exact False.elim p
    | _ => exact False.elim p
end
end Ms

/-! Comparisons of the machine in the model. -/
namespace Ms
open PySem PySem.Spec PyProof.Rows L2 Mx

mutual
def toP : D → PyData
  | .non => .none
  | .bl b => .bool b
  | .int i => .int i
  | .str x => .str (sS x)
  | .tup xs => .tuple (toPs xs)
  | .ref _ => .none
def toPs : List D → List PyData
  | [] => []
  | x :: xs => toP x :: toPs xs
end
theorem beq_dec {α : Type} [BEq α] [LawfulBEq α] [DecidableEq α] (a b : α) : (a == b) = decide (a = b) := by
  rw [Bool.eq_iff_iff, beq_iff_eq, decide_eq_true_eq]
theorem sS_beq (x y : List Nat) : (sS x == sS y) = decide (x = y) := by
  rw [beq_dec]
  exact decide_eq_decide.mpr sS_inj
mutual
theorem eqv_toP : ∀ (x y : D) {a b : Nat}, dep x = some a → dep y = some b → PyData.eqv (toP x) (toP y) = eqd x y
  | .non, .non, _, _, _, _ => by simp [toP, PyData.eqv, eqd]
  | .non, .bl _, _, _, _, _ => by simp [toP, PyData.eqv, eqd]
  | .non, .int _, _, _, _, _ => by simp [toP, PyData.eqv, eqd]
  | .non, .str _, _, _, _, _ => by simp [toP, PyData.eqv, eqd]
  | .non, .tup _, _, _, _, _ => by simp [toP, PyData.eqv, eqd]
  | .bl _, .non, _, _, _, _ => by simp [toP, PyData.eqv, eqd]
  | .bl _, .bl _, _, _, _, _ => by simp [toP, PyData.eqv, eqd]
  | .bl a, .int j, _, _, _, _ => by simp only [toP, PyData.eqv, eqd]; exact beq_dec _ _
  | .bl _, .str _, _, _, _, _ => by simp [toP, PyData.eqv, eqd]
  | .bl _, .tup _, _, _, _, _ => by simp [toP, PyData.eqv, eqd]
  | .int _, .non, _, _, _, _ => by simp [toP, PyData.eqv, eqd]
  | .int i, .bl b, _, _, _, _ => by simp only [toP, PyData.eqv, eqd]; exact beq_dec _ _
  | .int _, .int _, _, _, _, _ => by simp only [toP, PyData.eqv, eqd]; exact beq_dec _ _
  | .int _, .str _, _, _, _, _ => by simp [toP, PyData.eqv, eqd]
  | .int _, .tup _, _, _, _, _ => by simp [toP, PyData.eqv, eqd]
  | .str _, .non, _, _, _, _ => by simp [toP, PyData.eqv, eqd]
  | .str _, .bl _, _, _, _, _ => by simp [toP, PyData.eqv, eqd]
  | .str _, .int _, _, _, _, _ => by simp [toP, PyData.eqv, eqd]
  | .str x, .str y, _, _, _, _ => by simp only [toP, PyData.eqv, eqd]; exact sS_beq x y
  | .str _, .tup _, _, _, _, _ => by simp [toP, PyData.eqv, eqd]
  | .tup _, .non, _, _, _, _ => by simp [toP, PyData.eqv, eqd]
  | .tup _, .bl _, _, _, _, _ => by simp [toP, PyData.eqv, eqd]
  | .tup _, .int _, _, _, _, _ => by simp [toP, PyData.eqv, eqd]
  | .tup _, .str _, _, _, _, _ => by simp [toP, PyData.eqv, eqd]
  | .tup xs, .tup ys, a, b, ha, hb => by
    simp only [toP, PyData.eqv, eqd]
    unfold dep at ha hb
    cases e1 : deps xs with
    | none => rw [e1] at ha; cases ha
    | some m => cases e2 : deps ys with
      | none => rw [e2] at hb; cases hb
      | some n => exact eqv_toPs xs ys e1 e2
  | .ref _, _, _, _, ha, _ => by simp [dep] at ha
  | .non, .ref _, _, _, _, hb => by simp [dep] at hb
  | .bl _, .ref _, _, _, _, hb => by simp [dep] at hb
  | .int _, .ref _, _, _, _, hb => by simp [dep] at hb
  | .str _, .ref _, _, _, _, hb => by simp [dep] at hb
  | .tup _, .ref _, _, _, _, hb => by simp [dep] at hb
theorem eqv_toPs : ∀ (xs ys : List D) {a b : Nat}, deps xs = some a → deps ys = some b → PyData.eqvAll (toPs xs) (toPs ys) = eqds xs ys
  | [], [], _, _, _, _ => by simp [toPs, PyData.eqvAll, eqds]
  | [], _ :: _, _, _, _, _ => by simp [toPs, PyData.eqvAll, eqds]
  | _ :: _, [], _, _, _, _ => by simp [toPs, PyData.eqvAll, eqds]
  | x :: xs, y :: ys, a, b, ha, hb => by
    simp only [toPs, PyData.eqvAll, eqds]
    unfold deps at ha hb
    cases e1 : dep x with
    | none => rw [e1] at ha; simp at ha
    | some m => cases e2 : deps xs with
      | none => rw [e1, e2] at ha; simp at ha
      | some n => cases e3 : dep y with
        | none => rw [e3] at hb; simp at hb
        | some o => cases e4 : deps ys with
          | none => rw [e3, e4] at hb; simp at hb
          | some q => rw [eqv_toP x y e1 e3, eqv_toPs xs ys e2 e4]
end
mutual
theorem plain_toP : ∀ x : D, (toP x).plain = true
  | .non => rfl
  | .bl _ => rfl
  | .int _ => rfl
  | .str _ => rfl
  | .tup xs => by simp only [toP, PyData.plain]; exact plain_toPs xs
  | .ref _ => rfl
theorem plain_toPs : ∀ xs : List D, PyData.plainAll (toPs xs) = true
  | [] => rfl
  | x :: xs => by simp only [toPs, PyData.plainAll, plain_toP x, plain_toPs xs]; rfl
end
mutual
theorem depth_toP : ∀ (x : D) {a : Nat}, dep x = some a → (toP x).depth = a
  | .non, _, h => by simp [dep] at h; subst h; rfl
  | .bl _, _, h => by simp [dep] at h; subst h; rfl
  | .int _, _, h => by simp [dep] at h; subst h; rfl
  | .str _, _, h => by simp [dep] at h; subst h; rfl
  | .tup xs, a, h => by
    unfold dep at h
    cases e : deps xs with
    | none => rw [e] at h; cases h
    | some m => rw [e] at h; cases h; simp only [toP, PyData.depth, depth_toPs xs e]
  | .ref _, _, h => by simp [dep] at h
theorem depth_toPs : ∀ (xs : List D) {a : Nat}, deps xs = some a → PyData.depthAll (toPs xs) = a
  | [], _, h => by simp [deps] at h; subst h; rfl
  | x :: xs, a, h => by
    unfold deps at h
    cases e1 : dep x with
    | none => rw [e1] at h; simp at h
    | some m => cases e2 : deps xs with
      | none => rw [e1, e2] at h; simp at h
      | some n => rw [e1, e2] at h; cases h; simp only [toPs, PyData.depthAll, depth_toP x e1, depth_toPs xs e2]
end
section
variable {X : Cx} {pins : List (Addr × Obj)} {σ : L2.St} {H : Hp} {s : Shared} {ρ : Rho}
mutual
theorem R.reads (I : L2.Inv X pins σ H s) : ∀ (d : D) {v : V} {u : Value} {n : Nat}, dep d = some n → R X.K ρ H d v → RelV v u → ∃ as, Reads s.heap u (toP d) as
  | .non, _, _, _, _, r, q => by cases r.non; cases q; exact ⟨_, Reads.none⟩
  | .bl b, _, _, _, _, r, q => by cases r.bl; cases q; exact ⟨_, Reads.bool b⟩
  | .int i, _, _, _, _, r, q => by cases r.int; obtain ⟨t, rfl⟩ := q; exact ⟨_, Reads.int i t⟩
  | .str x, _, _, _, _, r, q => by cases r.str; obtain ⟨t, rfl⟩ := q; exact ⟨_, Reads.str (sS x) t⟩
  | .tup xs, _, _, _, h, r, q => by
    obtain ⟨a, vs, rfl, t, l⟩ := r.tup
    cases q
    unfold dep at h
    cases e : deps xs with
    | none => rw [e] at h; cases h
    | some m =>
      obtain ⟨its, rv, ⟨o, ho, hc, n, hd⟩, _⟩ := I.tuple t.sq
      obtain ⟨as, hr⟩ := RL.reads I xs e l rv
      exact ⟨_, Reads.tuple ho hc hd hr⟩
  | .ref _, _, _, _, h, _, _ => by simp [dep] at h
theorem RL.reads (I : L2.Inv X pins σ H s) : ∀ (ds : List D) {vs : List V} {us : List Value} {n : Nat}, deps ds = some n → RL X.K ρ H ds vs → Vals vs us → ∃ as, ReadsAll s.heap us (toPs ds) as
  | [], _, _, _, _, r, q => by unfold RL at r; subst r; cases q; exact ⟨_, ReadsAll.nil⟩
  | d :: ds, _, _, _, h, r, q => by
    unfold RL at r
    obtain ⟨v, r', rfl, a, b⟩ := r
    unfold deps at h
    cases e1 : dep d with
    | none => rw [e1] at h; simp at h
    | some m => cases e2 : deps ds with
      | none => rw [e1, e2] at h; simp at h
      | some n =>
        cases q with
        | cons q1 q2 =>
          obtain ⟨as, z1⟩ := R.reads I d e1 a q1
          obtain ⟨bs, z2⟩ := RL.reads I ds e2 b q2
          exact ⟨_, ReadsAll.cons z1 z2⟩
end
/-- what is compared, as data -/
def cP : C → PyData
  | .d x => toP x
  | .l xs => .list (toPs xs)
def cD : C → Option Nat
  | .d x => dep x
  | .l xs => (deps xs).map (· + 1)
theorem cP_plain (c : C) : (cP c).plain = true := by
  cases c with
  | d x => exact plain_toP x
  | l xs => exact plain_toPs xs
theorem cP_depth {c : C} {a : Nat} (h : cD c = some a) : (cP c).depth = a := by
  cases c with
  | d x => exact depth_toP x h
  | l xs =>
    cases e : deps xs with
    | none => simp [cD, e] at h
    | some m => simp [cD, e] at h; subst h; simp only [cP, PyData.depth, depth_toPs xs e]
/-- an answer of eqc: both are data, not too deep, the answer is Python's -/
theorem eqc_ok {a b : C} {k : Bool} (h : eqc a b = some k) : ∃ m n, cD a = some m ∧ cD b = some n ∧ min m n ≤ 61 ∧ PyData.eqv (cP a) (cP b) = k := by
  cases a with
  | d x => cases b with
    | d y =>
      unfold eqc at h
      cases e1 : dep x with
      | none => simp only [e1] at h; cases h
      | some m => cases e2 : dep y with
        | none => simp only [e1, e2] at h; cases h
        | some n =>
          simp only [e1, e2] at h
          split at h
          · cases h
            exact ⟨m, n, e1, e2, by omega, eqv_toP x y e1 e2⟩
          · cases h
    | l ys =>
      unfold eqc at h
      cases e1 : dep x with
      | none => simp only [e1] at h; cases h
      | some m => cases e2 : deps ys with
        | none => simp only [e1, e2] at h; cases h
        | some n =>
          simp only [e1, e2] at h
          split at h
          · cases h
            refine ⟨m, n + 1, e1, by simp [cD, e2], by omega, ?_⟩
            cases x <;> simp [cP, toP, PyData.eqv]
          · cases h
  | l xs => cases b with
    | d y =>
      unfold eqc at h
      cases e1 : deps xs with
      | none => simp only [e1] at h; cases h
      | some m => cases e2 : dep y with
        | none => simp only [e1, e2] at h; cases h
        | some n =>
          simp only [e1, e2] at h
          split at h
          · cases h
            refine ⟨m + 1, n, by simp [cD, e1], e2, by omega, ?_⟩
            cases y <;> simp [cP, toP, PyData.eqv]
          · cases h
    | l ys =>
      unfold eqc at h
      cases e1 : deps xs with
      | none => simp only [e1] at h; cases h
      | some m => cases e2 : deps ys with
        | none => simp only [e1, e2] at h; cases h
        | some n =>
          simp only [e1, e2] at h
          split at h
          · cases h
            refine ⟨m + 1, n + 1, by simp [cD, e1], by simp [cD, e2], by omega, ?_⟩
            simp only [cP, PyData.eqv]
            exact eqv_toPs xs ys e1 e2
          · cases h
theorem cOf_reads {G : GL} {h : AH} {d : D} {c : C} {n : Nat} {v : V} {u : Value} (g : X.K = G.K) (I : L2.Inv X pins σ H s) (hr : HR G ρ h H) (e : cOf h d = some c) (hd : cD c = some n) (r : R G.K ρ H d v) (q : RelV v u) : ∃ as, Reads s.heap u (cP c) as := by
  cases d with
  | ref l =>
    obtain ⟨a, rfl, ea⟩ := r.ref
    cases q
    have e : (lstAt h l).map C.l = some c := e
    cases el : lstAt h l with
    | none => rw [el] at e; cases e
    | some xs =>
      rw [el] at e
      cases e
      obtain ⟨vs, h1, h2⟩ := hr.seq ea el
      rw [← g] at h1 h2
      obtain ⟨its, rv, ⟨o, n, ho, hc, _, hdt⟩, _⟩ := I.list h1
      cases e2 : deps xs with
      | none => simp [cD, e2] at hd
      | some m =>
        obtain ⟨as, hr2⟩ := RL.reads I xs e2 h2 rv
        exact ⟨_, Reads.list ho hc hdt hr2⟩
  | non => cases e; rw [← g] at r; exact R.reads I _ hd r q
  | bl b => cases e; rw [← g] at r; exact R.reads I _ hd r q
  | int i => cases e; rw [← g] at r; exact R.reads I _ hd r q
  | str x => cases e; rw [← g] at r; exact R.reads I _ hd r q
  | tup xs => cases e; rw [← g] at r; exact R.reads I _ hd r q
theorem anyEq_ok {x : D} {ys : List D} {k : Bool} (h : anyEq x ys = some k) : ∃ m n, dep x = some m ∧ deps ys = some n ∧ min m n ≤ 60 ∧ ((toPs ys).any fun y => PyData.eqv y (toP x)) = k := by
  unfold anyEq at h
  cases e1 : dep x with
  | none => simp only [e1] at h; cases h
  | some m => cases e2 : deps ys with
    | none => simp only [e1, e2] at h; cases h
    | some n =>
      simp only [e1, e2] at h
      split at h
      · cases h
        refine ⟨m, n, rfl, rfl, by omega, ?_⟩
        induction ys generalizing n with
        | nil => rfl
        | cons y ys ih =>
          unfold deps at e2
          cases e3 : dep y with
          | none => rw [e3] at e2; simp at e2
          | some a => cases e4 : deps ys with
            | none => rw [e3, e4] at e2; simp at e2
            | some b =>
              simp only [toPs, List.any_cons, eqv_toP y x e3 e1]
              rw [e3, e4] at e2
              cases e2
              rename_i hle
              rw [ih (n := b) e4 (by omega)]
      · cases h
end
end Ms

/-! Comparisons of the machine in the model: the operators. -/
namespace Ms
open PySem PySem.Spec PyProof.Rows L2 Mx

section
variable {G : GL} {F : Cf} {N : List Str} {sc : List (Str × NameKind)} {W : WX} {X : Cx}
theorem opt_bl {Wk : XK} {ρ : Rho} {H : Hp} {o : Option Bool} {h : AH} {Q : VK} (hr : HR G ρ h H) (p : Pst G Wk ρ H (optR (o.map .bl) h) (pV G Q)) : ∃ k, o = some k ∧ Q (.bl k) H := by
  obtain ⟨d, e, p⟩ := Pst.opt p
  cases o with
  | none => cases e
  | some k => cases e; exact ⟨k, rfl, p.here hr _ (R.ofBl k)⟩
theorem eqh_ok {h : AH} {x y : D} {k : Bool} (e : eqh h x y = some k) : ∃ a b m n, cOf h x = some a ∧ cOf h y = some b ∧ cD a = some m ∧ cD b = some n ∧ min m n ≤ 61 ∧ PyData.eqv (cP a) (cP b) = k := by
  unfold eqh at e
  cases e1 : cOf h x with
  | none => simp only [e1] at e; cases e
  | some a => cases e2 : cOf h y with
    | none => simp only [e1, e2] at e; cases e
    | some b =>
      simp only [e1, e2] at e
      obtain ⟨m, n, h1, h2, h3, h4⟩ := eqc_ok e
      exact ⟨a, b, m, n, rfl, rfl, h1, h2, h3, h4⟩
/-- reads of x in ys -/
theorem inh_seq {pins : List (Addr × Obj)} {σ : L2.St} {H : Hp} {s : Shared} {ρ : Rho} {h : AH} {x : D} {ys : List D} {vs : List V} {v : V} {u : Value} {n m : Nat} (g : X.K = G.K) (I : L2.Inv X pins σ H s) (e1 : dep x = some m) (e2 : deps ys = some n) (r : R G.K ρ H x v) (q : RelV v u) (l : RL G.K ρ H ys vs) {a : Addr} :
    (SqL G.K H a vs → (∃ as, Reads s.heap u (toP x) as) ∧ ∃ bs, Reads s.heap (.ref a) (.list (toPs ys)) bs) ∧ (TA G.K H a vs → (∃ as, Reads s.heap u (toP x) as) ∧ ∃ bs, Reads s.heap (.ref a) (.tuple (toPs ys)) bs) := by
  rw [← g] at r l ⊢
  have z := R.reads I x e1 r q
  refine ⟨fun h1 => ⟨z, ?_⟩, fun h1 => ⟨z, ?_⟩⟩
  · obtain ⟨its, rv, ⟨o, n, ho, hc, _, hdt⟩, _⟩ := I.list h1
    obtain ⟨as, hr2⟩ := RL.reads I ys e2 l rv
    exact ⟨_, Reads.list ho hc hdt hr2⟩
  · obtain ⟨its, rv, ⟨o, ho, hc, n, hd⟩, _⟩ := I.tuple h1.sq
    obtain ⟨as, hr2⟩ := RL.reads I ys e2 l rv
    exact ⟨_, Reads.tuple ho hc hd hr2⟩
theorem inh_ok (neg : Bool) {pins : List (Addr × Obj)} {σ : L2.St} {H : Hp} {s : Shared} {ρ : Rho} {h : AH} {x y : D} {vx vy : V} {u w : Value} {k : Bool} {Q : VK} (g : X.K = G.K) (hu : X.A.units + 200 < cLine) (I : L2.Inv X pins σ H s) (hr : HR G ρ h H)
    (r1 : R G.K ρ H x vx) (r2 : R G.K ρ H y vy) (q1 : RelV vx u) (q2 : RelV vy w) (e : inh h x y = some k) (q : Q (.bl (if neg = true then !k else k)) H) :
    wpAny (model X.prog X.w) X.A (compareOp (if neg = true then .NotIn else .In) u w) (EP X pins σ Q) X.xe s := by
  have list : ∀ {ys : List D} {vs : List V} {a : Addr}, SqL G.K H a vs → RL G.K ρ H ys vs → anyEq x ys = some k → w = .ref a → wpAny (model X.prog X.w) X.A (compareOp (if neg = true then .NotIn else .In) u w) (EP X pins σ Q) X.xe s := by
    intro ys vs a h1 h2 h3 h4
    subst h4
    obtain ⟨m, n, e1, e2, hm, hk⟩ := anyEq_ok h3
    obtain ⟨⟨as, ra⟩, ⟨bs, rb⟩⟩ := (inh_seq (h := h) g I e1 e2 r1 q1 h2).1 h1
    have hd : X.A.units + 1 + min (PyData.depthAll (toPs ys)) (toP x).depth < cLine := by
      rw [depth_toP x e1, depth_toPs ys e2, Nat.min_comm]; omega
    cases neg with
    | false => exact PySem.SeqAt.in_list_data rb ra (plain_toPs ys) (plain_toP x) hd ⟨.bl k, H, I, by rw [hk]; rfl, q⟩
    | true => exact PySem.SeqAt.notIn_list_data rb ra (plain_toPs ys) (plain_toP x) hd ⟨.bl (!k), H, I, by rw [hk]; rfl, q⟩
  cases y with
  | str b =>
    cases x with
    | str a =>
      cases r1.str
      cases r2.str
      cases a with
      | nil => cases e
      | cons c r => cases r with
        | cons _ _ => cases e
        | nil =>
          have e : some (decide (c ∈ b)) = some k := e
          cases e
          cases neg with
          | false => exact op_in_sign pins s σ H _ _ u w Q I q1 q2 ⟨c, sS b, rfl, rfl, by rw [sS_cps]; exact q⟩
          | true => exact op_notIn_sign pins s σ H _ _ u w Q I q1 q2 ⟨c, sS b, rfl, rfl, by rw [sS_cps]; exact q⟩
    | _ => cases e
  | tup ys =>
    obtain ⟨a, vs, rfl, t, l⟩ := r2.tup
    cases q2
    have e : anyEq x ys = some k := e
    obtain ⟨m, n, e1, e2, hm, hk⟩ := anyEq_ok e
    obtain ⟨⟨as, ra⟩, ⟨bs, rb⟩⟩ := (inh_seq (h := h) g I e1 e2 r1 q1 l).2 t
    have hd : X.A.units + 1 + min (PyData.depthAll (toPs ys)) (toP x).depth < cLine := by
      rw [depth_toP x e1, depth_toPs ys e2, Nat.min_comm]; omega
    cases neg with
    | false => exact PySem.SeqAt.in_tuple_data rb ra (plain_toPs ys) (plain_toP x) hd ⟨.bl k, H, I, by rw [hk]; rfl, q⟩
    | true => exact PySem.SeqAt.notIn_tuple_data rb ra (plain_toPs ys) (plain_toP x) hd ⟨.bl (!k), H, I, by rw [hk]; rfl, q⟩
  | ref l =>
    obtain ⟨a, rfl, ea⟩ := r2.ref
    cases q2
    have e : (match h[l]? with
      | some (.lst ys) => anyEq x ys
      | some (.frz ys) => anyEq x ys
      | some (.dic kvs) => (match dep x with
        | some a => if a ≤ 8 then some (kvs.any fun kv => eqd kv.1 x) else none
        | none => none)
      | _ => none) = some k := e
    split at e
    · rename_i ys hy
      obtain ⟨vs, h1, h2⟩ := hr.lst ea hy
      exact list (.of h1) h2 e rfl
    · rename_i ys hy
      obtain ⟨vs, h1, h2⟩ := hr.frz ea hy
      exact list h1.sq h2 e rfl
    · rename_i ys hy
      exact (hr.dic ea hy).elim
    · cases e
  | _ => cases e
theorem op_cmpop (g : X.K = G.K) (hu : X.A.units + 200 < cLine) : ∀ o : CO, OpR X (compareOp o.op) (r2M G (cmpR o)) := by
  intro o pins s σ H x y v u Q I rx ry ⟨ρ, h, dx, dy, Wk, hr, r1, r2, p⟩
  obtain ⟨k, e, q⟩ := opt_bl hr p
  have isn : ∀ {b : Bool}, dx = .non → x = .non := fun {b} z => by subst z; exact r1.non
  have dn : ∀ {d : D} {v : V}, R G.K ρ H d v → decide (d = .non) = decide (v = .non) := fun {d v} r => by
    cases d with
    | non => rw [r.non]; rfl
    | bl b => rw [r.bl]; rfl
    | int b => rw [r.int]; rfl
    | str b => rw [r.str]; rfl
    | tup b => obtain ⟨a, vs, rfl, _⟩ := r.tup; rfl
    | ref b => obtain ⟨a, rfl, _⟩ := r.ref; rfl
  cases o with
  | eq =>
    obtain ⟨a, b, m, n, h1, h2, h3, h4, h5, h6⟩ := eqh_ok (show eqh h dx dy = some k from e)
    obtain ⟨as, ra⟩ := cOf_reads g I hr h1 h3 r1 rx
    obtain ⟨bs, rb⟩ := cOf_reads g I hr h2 h4 r2 ry
    refine PySem.SeqAt.eq_plain ra rb (cP_plain a) (cP_plain b) ?_ ⟨.bl k, H, I, by rw [h6]; rfl, q⟩
    rw [cP_depth h3, cP_depth h4]; omega
  | ne =>
    have e : (eqh h dx dy).map (!·) = some k := e
    cases e0 : eqh h dx dy with
    | none => rw [e0] at e; cases e
    | some k' =>
      rw [e0] at e
      cases e
      obtain ⟨a, b, m, n, h1, h2, h3, h4, h5, h6⟩ := eqh_ok e0
      obtain ⟨as, ra⟩ := cOf_reads g I hr h1 h3 r1 rx
      obtain ⟨bs, rb⟩ := cOf_reads g I hr h2 h4 r2 ry
      refine PySem.SeqAt.ne_plain ra rb (cP_plain a) (cP_plain b) ?_ ⟨.bl (!k'), H, I, by rw [h6]; rfl, q⟩
      rw [cP_depth h3, cP_depth h4]; omega
  | inn => exact inh_ok false g hu I hr r1 r2 rx ry (show inh h dx dy = some k from e) q
  | nin =>
    have e : (inh h dx dy).map (!·) = some k := e
    cases e0 : inh h dx dy with
    | none => rw [e0] at e; cases e
    | some k' =>
      rw [e0] at e
      cases e
      exact inh_ok true g hu I hr r1 r2 rx ry e0 q
  | is =>
    cases dy with
    | non =>
      have hy := r2.non
      have e : some (decide (dx = .non)) = some k := by cases dx <;> exact e
      cases e
      exact op_isN pins s σ H x y v u Q I rx ry ⟨hy, by rw [← dn r1]; exact q⟩
    | bl b =>
      cases dx with
      | bl a => cases e; exact op_isBl pins s σ H x y v u Q I rx ry ⟨a, b, r1.bl, r2.bl, q⟩
      | _ => cases e
    | _ => cases dx <;> cases e
  | isn =>
    cases dy with
    | non =>
      have hy := r2.non
      have e : some (!decide (dx = .non)) = some k := by cases dx <;> exact e
      cases e
      exact op_notN pins s σ H x y v u Q I rx ry ⟨hy, by rw [← dn r1]; exact q⟩
    | bl b =>
      cases dx with
      | bl a => cases e; exact op_notBl pins s σ H x y v u Q I rx ry ⟨a, b, r1.bl, r2.bl, q⟩
      | _ => cases e
    | _ => cases dx <;> cases e
  | lt =>
    cases dx with
    | int i => cases dy with
      | int j => cases e; exact op_lt pins s σ H x y v u Q I rx ry ⟨i, j, r1.int, r2.int, q⟩
      | _ => cases e
    | _ => cases e
  | le =>
    cases dx with
    | int i => cases dy with
      | int j => cases e; exact op_le pins s σ H x y v u Q I rx ry ⟨i, j, r1.int, r2.int, q⟩
      | _ => cases e
    | _ => cases e
  | gt =>
    cases dx with
    | int i => cases dy with
      | int j => cases e; exact op_gt pins s σ H x y v u Q I rx ry ⟨i, j, r1.int, r2.int, q⟩
      | _ => cases e
    | _ => cases e
  | ge =>
    cases dx with
    | int i => cases dy with
      | int j => cases e; exact op_ge pins s σ H x y v u Q I rx ry ⟨i, j, r1.int, r2.int, q⟩
      | _ => cases e
    | _ => cases e
end
end Ms

/-! Calls of the machine in the model. -/
namespace Ms
open PySem PySem.Spec PyProof.Rows L2 Mx

/-! ### what the sources never are -/
theorem src_star (e : E) (es : List Expr) (env : Env) : starEach (e.src :: es) env = (false, eval e.src env) :: starEach es env := by
  induction e generalizing es with
  | newl l ih => exact ih es
  | lval e ih => exact ih es
  | lref e ih => exact ih es
  | iseq e ih => exact ih es
  | _ => rfl
theorem src_plain (e : E) : (∀ es : List Expr, starEach (e.src :: es) = starEach (e.src :: es)) := fun _ => rfl
theorem srcs_star (pos : Pos) (env : Env) : ∀ e : E, (backTo pos (starEach e.srcs env)).any (·.1) = false := by
  intro e
  induction e with
  | acons a r _ ih =>
    show (backTo pos (starEach (a.src :: r.srcs) env)).any (·.1) = false
    rw [src_star]
    show (false || (backTo pos (starEach r.srcs env)).any (·.1)) = false
    rw [ih]; rfl
  | _ => rfl
theorem src_ix (e : E) : PlainIx e.src := fun o i => by
  induction e with
  | newl l ih => exact ih
  | lval e ih => exact ih
  | lref e ih => exact ih
  | iseq e ih => exact ih
  | _ => rfl
theorem src_mark (o : CO) (e : E) : behindInMarks o.op e.src = false := by
  induction e with
  | newl l ih => exact ih
  | lval e ih => exact ih
  | lref e ih => exact ih
  | iseq e ih => exact ih
  | _ => rfl
theorem src_fold (e : E) (env : Env) (x : Value) : foldedSetIterable e.src env x = pure x := by
  induction e with
  | newl l ih => exact ih
  | lval e ih => exact ih
  | lref e ih => exact ih
  | iseq e ih => exact ih
  | _ => rfl
/-- not «super()» -/
def noSuper : E → Bool
  | .call _ x _ _ _ => decide ((x != ("super" : Str)) = true)
  | .callk _ x _ _ _ _ => decide ((x != ("super" : Str)) = true)
  | .make _ x _ _ _ => decide ((x != ("super" : Str)) = true)
  | .refd _ _ x _ _ _ _ _ => decide ((x != ("super" : Str)) = true)
  | .newl _ => false
  | .lval _ => false
  | .lref _ => false
  | .iseq _ => false
  | _ => true
theorem abase_gen {id attr : Str} {p pos : Pos} {as : List Expr} {ks : List Keyword} {env : Env} {whole : Sem Value} (h : (id != ("super" : Str)) = true) : attributeBase (.Call (.Name id p) as ks pos) attr env whole = whole := by
  cases as with
  | cons a r => rfl
  | nil => cases ks with
    | cons k r => rfl
    | nil => exact abase_call h
theorem src_base {e : E} (h : noSuper e = true) (m : Str) (env : Env) : attributeBase e.src m env (eval e.src env) = eval e.src env := by
  cases e with
  | call f x px es p => exact abase_gen (of_decide_eq_true h)
  | callk f x px es ks p => exact abase_gen (of_decide_eq_true h)
  | make c x px es p => exact abase_gen (of_decide_eq_true h)
  | refd c f x px sc b pl p => exact abase_gen (of_decide_eq_true h)
  | newl l => cases h
  | lval l => cases h
  | lref l => cases h
  | iseq l => cases h
  | b1 b e px p => cases b <;> rfl
  | bl b e px p => cases b <;> rfl
  | _ => rfl
def alen : E → Nat
  | .acons _ r => alen r + 1
  | _ => 0
theorem alen_srcs : ∀ e : E, e.srcs.length = alen e := by
  intro e
  induction e with
  | acons a r _ ih => show r.srcs.length + 1 = alen r + 1; rw [ih]
  | _ => rfl
theorem srcs_form (pos : Pos) (env : Env) : ∀ e : E, (backTo pos (starEach e.srcs env)).all (!·.1) = true := by
  intro e
  induction e with
  | acons a r _ ih =>
    show (backTo pos (starEach (a.src :: r.srcs) env)).all (!·.1) = true
    rw [src_star]
    show (!false && (backTo pos (starEach r.srcs env)).all (!·.1)) = true
    rw [ih]; rfl
  | _ => rfl
/-- a method call's tree -/
theorem mtree {o es : E} {m : Str} {ap p : Pos} (env : Env) (h1 : noSuper o = true) (h2 : (ap.endLine == p.line) = true) (h3 : alen es < 30) : eval (.Call (.Attribute o.src m ap) es.srcs [] p) env = (do
      let ov ← eval o.src env
      standAt ap.atName
      let (f, first) ← holding [ov] (getMethod ov m (plainOf o.src env))
      callWith p f first (backTo p (starEach es.srcs env)) (backToKw p (keywordEach [] env))) := by
  refine mcall_of (src_base h1 m env) fun ov => mcall_line ?_ h2
  unfold methodCallForm
  rw [srcs_form, alen_srcs]
  have : decide (alen es + 0 + (if (backToKw p (keywordEach [] env)).isEmpty = true then 0 else 1) < 30) = true := decide_eq_true (by
    show alen es + 0 + 0 < 30
    omega)
  exact this
section
variable {G : GL} {F : Cf} {N : List Str} {sc : List (Str × NameKind)} {W : WX} {X : Cx}
/-- the callee runs -/
theorem gcall (g : GX G F N sc W X) {pins : List (Addr × Obj)} {σ : L2.St} {H : Hp} {s : Shared} {Q : VK} {us : List Value} {vs : List V} {f : Nat} {ρ : Rho} {h : AH} {ds : List D} (I : L2.Inv X pins σ H s) (rv : Vals vs us) (hr : HR G ρ h H) (rl : RL G.K ρ H ds vs)
    (p : Pst G (wAt W σ) ρ H (F.cf f ds h) (pV G Q)) : wpAny (model X.prog X.w) X.A (call (.ref (G.FA f)) us) (EP X pins σ Q) X.xe s := by
  obtain ⟨k, hk, hf⟩ := g.cf
  have hne : ¬ (G.P.fn f = none ∨ ds.length ≠ (G.PS f).length) := fun z => by
    rw [(hf f).2 ds h z] at p
    exact p
  have h1 : G.P.fn f ≠ none := fun z => hne (.inl z)
  have h2 : ds.length = (G.PS f).length := Decidable.of_not_not fun z => hne (.inr z)
  refine run_fnSD (E := fun σ => wAt W σ) (dvs := []) (hf f).1 hk ?_ .nil (passAt g.tk σ) I rv ?_
  · rw [g.K]; exact g.gf.bin f h1
  · rw [List.append_nil]
    exact ⟨by rw [rl.length]; exact h2, G.fr, ρ, ds, h, hr, rl, p⟩
/-- a maker -/
theorem gmake (g : GX G F N sc W X) {pins : List (Addr × Obj)} {σ : L2.St} {H : Hp} {s : Shared} {Q : VK} {us : List Value} {vs : List V} {c f : Nat} {ρ : Rho} {h : AH} {ds : List D} (I : L2.Inv X pins σ H s) (rv : Vals vs us) (hr : HR G ρ h H) (rl : RL G.K ρ H ds vs) (hi : G.P.ini c = some f)
    (p : Pst G (wAt W σ) ρ H ((F.mf f (.ref h.length :: ds) (h ++ [.ins c []])).bnd fun d h2 => match d with
      | .non => .ok (.ref h.length) h2
      | _ => .no) (pV G Q)) : wpAny (model X.prog X.w) X.A (PySem.call (.ref (G.cA c)) us) (EP X pins σ Q) X.xe s := by
  obtain ⟨k, hk, hf⟩ := g.mf
  obtain ⟨hc, hm⟩ := g.gf.ins c f hi
  rw [← g.K] at hc hm
  have I2 := Inv.made (C := G.cA c) I
  have n1 : H (s.heap.objs.size + 1) = none := I.hok.fresh (Nat.le_succ _)
  have n2 : H s.heap.objs.size = none := I.hok.fresh (Nat.le_refl _)
  have ne : s.heap.objs.size ≠ s.heap.objs.size + 1 := Nat.ne_of_lt (Nat.lt_succ_self _)
  have n3 : upd H s.heap.objs.size (.own (s.heap.objs.size + 1)) (s.heap.objs.size + 1) = none := by rw [upd_ne (Ne.symm ne)]; exact n1
  have hr1 : HR G ρ h (upd H s.heap.objs.size (.own (s.heap.objs.size + 1))) := hr.junk n2
  have hr2 : HR G (ρ ++ [s.heap.objs.size + 1]) (h ++ [.ins c []]) (upd (upd H s.heap.objs.size (.own (s.heap.objs.size + 1))) (s.heap.objs.size + 1) (.ins (G.cA c) s.heap.objs.size [])) :=
    hr1.alloc n3 ⟨s.heap.objs.size, [], upd_same, by unfold FR; rfl, by rw [hi]; rfl, fun p hp => by cases hp⟩ rfl
  have kp : Kp H (upd (upd H s.heap.objs.size (.own (s.heap.objs.size + 1))) (s.heap.objs.size + 1) (.ins (G.cA c) s.heap.objs.size [])) := (Kp.new n2).trans (Kp.new n3)
  have rl2 := rl.mono (List.prefix_append ρ [s.heap.objs.size + 1]) kp
  have rr : R G.K (ρ ++ [s.heap.objs.size + 1]) (upd (upd H s.heap.objs.size (.own (s.heap.objs.size + 1))) (s.heap.objs.size + 1) (.ins (G.cA c) s.heap.objs.size [])) (.ref h.length) (.ref (s.heap.objs.size + 1)) := by
    unfold R; exact ⟨_, rfl, app_get ρ _ h hr.len⟩
  have p2 := p.bnd
  have hne : ¬ (G.P.fn f = none ∨ (D.ref h.length :: ds).length ≠ (G.PS f).length) := fun z => by
    rw [(hf f).2 _ _ z] at p2
    exact p2
  have h1 : G.P.fn f ≠ none := fun z => hne (.inl z)
  have h2 : (D.ref h.length :: ds).length = (G.PS f).length := Decidable.of_not_not fun z => hne (.inr z)
  have hl : (V.ref (s.heap.objs.size + 1) :: vs).length = (G.PS f).length := by rw [← h2, List.length_cons, List.length_cons, rl.length]
  have hlu : (Value.ref (s.heap.objs.size + 1) :: us ++ ([] : List Value)).length = (G.PS f).length := by
    rw [← hl, List.append_nil, List.length_cons, List.length_cons, rv.length]
  have sp : spM G (F.mf f) (G.PS f).length (V.ref (s.heap.objs.size + 1) :: vs) (upd (upd H s.heap.objs.size (.own (s.heap.objs.size + 1))) (s.heap.objs.size + 1) (.ins (G.cA c) s.heap.objs.size [])) (fun v H2 => v = .non ∧ Q (.ref (s.heap.objs.size + 1)) H2) (wAt W σ) := by
    refine ⟨hl, G.fr, _, .ref h.length :: ds, _, hr2, RL.cons rr rl2, ?_⟩
    have p3 : Pst G (wAt W σ) (ρ ++ [s.heap.objs.size + 1]) (upd (upd H s.heap.objs.size (.own (s.heap.objs.size + 1))) (s.heap.objs.size + 1) (.ins (G.cA c) s.heap.objs.size [])) (F.mf f (.ref h.length :: ds) (h ++ [.ins c []])) fun a ρ' h' H' => Pst G (wAt W σ) ρ' H' (match a with
      | .non => .ok (.ref h.length) h'
      | _ => .no) (pV G Q) := by
      revert p2
      cases F.mf f (.ref h.length :: ds) (h ++ [.ins c []]) with
      | ok a h' => exact fun z ρ' H' pre k hr => z ρ' H' ((List.prefix_append _ _).trans pre) (kp.trans k) hr
      | ex c fs h' => exact fun z ρ' H' e gs pre k hr => z ρ' H' e gs ((List.prefix_append _ _).trans pre) (kp.trans k) hr
      | no => exact fun z => z
    refine p3.mono fun a ρ' h' H' pre k hr3 q v rvv => ?_
    cases a with
    | non => exact ⟨rvv.non, q.here hr3 _ (rr.mono pre k)⟩
    | _ => exact q.elim
  refine wpAny_call (make_map (f := G.FA f) I.kIn hm.makes hm.init (beq_iff_eq.mp hm.fn) (codeAny_mono ((hf f).1.run _ X.stack _ _ ⟨Value.ref (s.heap.objs.size + 1) :: us, []⟩ (Value.ref (s.heap.objs.size + 1) :: us) _ _ (wAt W σ) (hk.make (G.cA c) us [])
    (I2.env0.make (G.cA c) us []) ?_ (.cons (show RelV (.ref (s.heap.objs.size + 1)) (.ref (s.heap.objs.size + 1)) from rfl) rv) sp) fun r s' hq' => ?_))
  · have b := g.gf.bin f h1 _ (Value.ref (s.heap.objs.size + 1) :: us) (by rw [← g.K]; exact I2.kIn) hlu
    rw [List.append_nil] at b
    exact b
  cases r with
  | error e => exact passAt g.tk σ pins _ _ e s' I2 hq'
  | ok fl =>
    cases fl with
    | ret u =>
      obtain ⟨v, H', I3, rv3, ev, q3⟩ := I2.after hq'
      subst ev
      exact ⟨rv3, ⟨V.ref (s.heap.objs.size + 1), H', I3, rfl, q3⟩⟩
    | next => exact False.elim hq'
    | brk => exact False.elim hq'
    | cont => exact False.elim hq'
end
end Ms

/-! Built-in calls of the machine in the model. -/
namespace Ms
open PySem PySem.Spec PyProof.Rows L2 Mx

section
variable {G : GL} {F : Cf} {N : List Str} {sc : List (Str × NameKind)} {W : WX} {X : Cx}
/-- rows by their items: tr, that a tracked list stands there -/
def atL (K : PySem.W.Frag) (tr : Bool) (H : Hp) (a : Addr) (vs : List V) : Prop := if tr = true then H a = some (.lst vs) else SqL K H a vs ∨ TA K H a vs
theorem atL.sq {K : PySem.W.Frag} {tr : Bool} {H : Hp} {a : Addr} {vs : List V} (h : atL K tr H a vs) : SqL K H a vs ∨ SqT K H a vs := by
  cases tr with
  | true => exact .inl (.of h)
  | false =>
    rcases h with h | h
    · exact .inl h
    · exact .inr h.sq
def pLs (G : GL) (tr : Bool) (Q : VK) : List D → Rho → AH → Hp → Prop := fun ds ρ _ H => ∀ a vs, RL G.K ρ H ds vs → atL G.K tr H a vs → Q (.ref a) H
def tL (G : GL) (W : WX) (tr : Bool) (m : M (List D)) : TE := fun σ H Q => rd G W m σ H (pLs G tr Q)
/-- the row, then what follows -/
theorem rowL {β : Type} {ma : M (List D)} {f : List D → AH → Rs β} {P : β → Rho → AH → Hp → Prop} {tr : Bool} {σ : L2.St} {H : Hp} {R1 : V → Hp → Prop} (h : rd G W (fun s h => (ma s h).bnd f) σ H P)
    (k : ∀ ρ ds xs h' H' a vs, SR G.K ρ H' ds σ → HR G ρ h' H' → RL G.K ρ H' xs vs → atL G.K tr H' a vs → Pst G (wAt W σ) ρ H' (f xs h') P → R1 (.ref a) H') : tL G W tr ma σ H R1 := by
  obtain ⟨ρ, ds, h0, sr, hr, p⟩ := h
  exact ⟨ρ, ds, h0, sr, hr, p.bnd.mono fun a ρ' h' H' pre kp hr' p' b vs rl at' => k ρ' ds a h' H' b vs (sr.mono pre kp) hr' rl at' p'⟩
theorem gblt (g : GX G F N sc W X) {x : Str} (h : x ∈ bltNames) : X.mg x = none := by rw [g.mg]; exact g.gf.blt x h
/-- one argument, a built-in -/
theorem pb1 (g : GX G F N sc W X) {id : String} {x : Str} {f : D → AH → Rs D} {m : M D} {e : Expr} {px p : Pos} {r : List V → Hp → VK → Prop} (hc : CallR X (.builtin id) r) (h1 : isGlo sc x = true) (h2 : x ∈ bltNames) (h3 : plainN x = true) (hv : bootBuiltins x = some (.builtin id)) (ha : PE X e (tE G W m))
    (hs : starEach [e] X.env = (false, eval e X.env) :: starEach [] X.env)
    (k : ∀ ρ d h' H' v σ Q, HR G ρ h' H' → R G.K ρ H' d v → Pst G (wAt W σ) ρ H' (f d h') (pV G Q) → r [v] H' Q) : PE X (.Call (.Name x px) [e] [] p) (tE G W fun s h => (m s h).bnd f) :=
  PE.imp (pe_callB hc (g.sco.gl h1) (gblt g h2) hv (pa_cons ha pa_nil hs) (plainN3 h3) (plainN1 h3) hs rfl) fun σ H Q w => one w fun ρ ds x h' H' v sr hr r1 q => k ρ x h' H' v σ Q hr r1 q
theorem pbT (g : GX G F N sc W X) {id : String} {x : Str} {f : D → AH → Rs D} {m : M D} {e : Expr} {px p : Pos} {r : List V → Hp → VK → Prop} (hc : CallR X (.type id) r) (h1 : isGlo sc x = true) (h2 : x ∈ bltNames) (h3 : plainN x = true) (hv : bootBuiltins x = some (.type id)) (ha : PE X e (tE G W m))
    (hs : starEach [e] X.env = (false, eval e X.env) :: starEach [] X.env)
    (k : ∀ ρ d h' H' v σ Q, HR G ρ h' H' → R G.K ρ H' d v → Pst G (wAt W σ) ρ H' (f d h') (pV G Q) → r [v] H' Q) : PE X (.Call (.Name x px) [e] [] p) (tE G W fun s h => (m s h).bnd f) :=
  PE.imp (pe_callTy hc (g.sco.gl h1) (gblt g h2) hv (pa_cons ha pa_nil hs) (plainN3 h3) (plainN1 h3) hs rfl) fun σ H Q w => one w fun ρ ds x h' H' v sr hr r1 q => k ρ x h' H' v σ Q hr r1 q
/-- a row, a built-in -/
theorem pbL (g : GX G F N sc W X) {id : String} {x : Str} {tr : Bool} {f : List D → AH → Rs D} {m : M (List D)} {e : Expr} {px p : Pos} {r : List V → Hp → VK → Prop} (hc : CallR X (.builtin id) r) (h1 : isGlo sc x = true) (h2 : x ∈ bltNames) (h3 : plainN x = true) (hv : bootBuiltins x = some (.builtin id)) (ha : PE X e (tL G W tr m))
    (hs : starEach [e] X.env = (false, eval e X.env) :: starEach [] X.env)
    (k : ∀ ρ ds h' H' a vs σ Q, HR G ρ h' H' → RL G.K ρ H' ds vs → atL G.K tr H' a vs → Pst G (wAt W σ) ρ H' (f ds h') (pV G Q) → r [.ref a] H' Q) : PE X (.Call (.Name x px) [e] [] p) (tE G W fun s h => (m s h).bnd f) :=
  PE.imp (pe_callB hc (g.sco.gl h1) (gblt g h2) hv (pa_cons ha pa_nil hs) (plainN3 h3) (plainN1 h3) hs rfl) fun σ H Q w => rowL (tr := tr) w fun ρ ds x h' H' a vs sr hr r1 at' q => k ρ x h' H' a vs σ Q hr r1 at' q
theorem pbLT (g : GX G F N sc W X) {id : String} {x : Str} {tr : Bool} {f : List D → AH → Rs D} {m : M (List D)} {e : Expr} {px p : Pos} {r : List V → Hp → VK → Prop} (hc : CallR X (.type id) r) (h1 : isGlo sc x = true) (h2 : x ∈ bltNames) (h3 : plainN x = true) (hv : bootBuiltins x = some (.type id)) (ha : PE X e (tL G W tr m))
    (hs : starEach [e] X.env = (false, eval e X.env) :: starEach [] X.env)
    (k : ∀ ρ ds h' H' a vs σ Q, HR G ρ h' H' → RL G.K ρ H' ds vs → atL G.K tr H' a vs → Pst G (wAt W σ) ρ H' (f ds h') (pV G Q) → r [.ref a] H' Q) : PE X (.Call (.Name x px) [e] [] p) (tE G W fun s h => (m s h).bnd f) :=
  PE.imp (pe_callTy hc (g.sco.gl h1) (gblt g h2) hv (pa_cons ha pa_nil hs) (plainN3 h3) (plainN1 h3) hs rfl) fun σ H Q w => rowL (tr := tr) w fun ρ ds x h' H' a vs sr hr r1 at' q => k ρ x h' H' a vs σ Q hr r1 at' q

theorem lenop_ok (g : X.K = G.K) {ρ : Rho} {h : AH} {H : Hp} {d : D} {v : V} {n : Nat} (hr : HR G ρ h H) (r : R G.K ρ H d v) (e : lenop d h = some n) : LenV X.K v H n := by
  cases d with
  | str z =>
    rw [r.str]
    have e : (if z.length ≤ SZ then some z.length else none) = some n := e
    split at e
    · rename_i hz
      cases e
      exact ⟨by rw [sS_len, ← SZ_eq]; exact hz, (sS_len z).symm⟩
    · cases e
  | tup xs =>
    obtain ⟨a, vs, rfl, t, l⟩ := r.tup
    cases e
    exact .inr ⟨vs, by rw [g]; exact t.sq, l.length.symm⟩
  | ref l =>
    obtain ⟨a, rfl, ea⟩ := r.ref
    have e : (match h[l]? with
      | some (.lst xs) => some xs.length
      | some (.frz xs) => some xs.length
      | some (.dic kvs) => some kvs.length
      | _ => none) = some n := e
    split at e
    · rename_i xs hx
      cases e
      obtain ⟨vs, h1, h2⟩ := hr.lst ea hx
      exact .inl ⟨vs, .of h1, h2.length.symm⟩
    · rename_i xs hx
      cases e
      obtain ⟨vs, h1, h2⟩ := hr.frz ea hx
      exact .inl ⟨vs, by rw [g]; exact h1.sq, h2.length.symm⟩
    · rename_i xs hx
      exact (hr.dic ea hx).elim
    · cases e
  | _ => cases e
theorem pB1 (g : GX G F N sc W X) {b : B1} {e : E} {px p : Pos} (h1 : isGlo sc b.nm = true) (hb : b ≠ .str ∨ True) (ha : PE X e.src (tE G W (ev F e))) : PE X (E.b1 b e px p).src (tE G W (ev F (.b1 b e px p))) := by
  cases b with
  | len =>
    refine pb1 g (x := "len") call_len h1 (by decide) (by decide) boot_len ha (src_star e [] _) fun ρ d h' H' v σ Q hr r q => ?_
    obtain ⟨d', e', q⟩ := Pst.opt q
    cases e2 : lenop d h' with
    | none => rw [e2] at e'; cases e'
    | some n =>
      rw [e2] at e'
      cases e'
      exact ⟨v, n, rfl, lenop_ok g.K hr r e2, hereV hr q (R.ofInt _)⟩
  | int =>
    refine pbT g (x := "int") (call_int1.or call_int_str) h1 (by decide) (by decide) boot_int ha (src_star e [] _) fun ρ d h' H' v σ Q hr r q => ?_
    cases d with
    | int i => rw [r.int]; exact .inl (.inl ⟨i, rfl, hereV hr q (R.ofInt _)⟩)
    | bl k => rw [r.bl]; exact .inl (.inr ⟨k, rfl, hereV hr q (R.ofInt _)⟩)
    | str z =>
      rw [r.str]
      obtain ⟨hz, q⟩ := Pst.ite q
      obtain ⟨d', e', q⟩ := Pst.opt q
      cases e2 : intText? ⟨z.toArray⟩ with
      | none => rw [e2] at e'; cases e'
      | some n =>
        rw [e2] at e'
        cases e'
        exact .inr ⟨sS z, n, rfl, e2, by rw [sS_len]; exact hz, hereV hr q (R.ofInt _)⟩
    | _ => exact q.elim
  | str =>
    refine pbT g (x := "str") call_str_int h1 (by decide) (by decide) boot_str ha (src_star e [] _) fun ρ d h' H' v σ Q hr r q => ?_
    cases d with
    | int i =>
      rw [r.int]
      obtain ⟨hz, q⟩ := Pst.ite q
      refine ⟨i, rfl, hz, hereV hr q ?_⟩
      unfold R
      simp [sS, strI]
    | _ => exact q.elim
/-! ### rows of truth values, ints, texts -/
theorem bls_ok {K : PySem.W.Frag} {ρ : Rho} {H : Hp} : ∀ {ds : List D} {bs : List Bool} {vs : List V}, bls ds = some bs → RL K ρ H ds vs → vs = bs.map V.bl
  | [], bs, vs, e, r => by
    cases e
    unfold RL at r
    exact r
  | d :: ds, bs, vs, e, r => by
    unfold RL at r
    obtain ⟨v, s, rfl, a, b⟩ := r
    cases d with
    | bl k =>
      have e : (bls ds).map (k :: ·) = some bs := e
      cases e2 : bls ds with
      | none => rw [e2] at e; cases e
      | some cs =>
        rw [e2] at e
        cases e
        rw [bls_ok e2 b, a.bl]
        rfl
    | _ => cases e
theorem ints_ok {K : PySem.W.Frag} {ρ : Rho} {H : Hp} : ∀ {ds : List D} {bs : List Int} {vs : List V}, intsD ds = some bs → RL K ρ H ds vs → vs = bs.map V.int
  | [], bs, vs, e, r => by
    cases e
    unfold RL at r
    exact r
  | d :: ds, bs, vs, e, r => by
    unfold RL at r
    obtain ⟨v, s, rfl, a, b⟩ := r
    cases d with
    | int k =>
      have e : (intsD ds).map (k :: ·) = some bs := e
      cases e2 : intsD ds with
      | none => rw [e2] at e; cases e
      | some cs =>
        rw [e2] at e
        cases e
        rw [ints_ok e2 b, a.int]
        rfl
    | _ => cases e
theorem strs_ok {K : PySem.W.Frag} {ρ : Rho} {H : Hp} : ∀ {ds : List D} {bs : List (List Nat)} {vs : List V}, strsD ds = some bs → RL K ρ H ds vs → vs = (bs.map sS).map V.str
  | [], bs, vs, e, r => by
    cases e
    unfold RL at r
    exact r
  | d :: ds, bs, vs, e, r => by
    unfold RL at r
    obtain ⟨v, s, rfl, a, b⟩ := r
    cases d with
    | str k =>
      have e : (strsD ds).map (k :: ·) = some bs := e
      cases e2 : strsD ds with
      | none => rw [e2] at e; cases e
      | some cs =>
        rw [e2] at e
        cases e
        rw [strs_ok e2 b, a.str]
        rfl
    | _ => cases e
theorem pBL (g : GX G F N sc W X) {b : BL} {l : E} {tr : Bool} {px p : Pos} (h1 : isGlo sc b.nm = true) (ht : tr = true ∨ b = .tuple) (hs : starEach [l.src] X.env = (false, eval l.src X.env) :: starEach [] X.env) (ha : PE X l.src (tL G W tr (evl F l))) : PE X (E.bl b l px p).src (tE G W (ev F (.bl b l px p))) := by
  cases b with
  | tuple =>
    refine pbLT g (x := "tuple") call_tuple_of h1 (by decide) (by decide) boot_tuple ha hs fun ρ ds h' H' a vs σ Q hr r at' q => ?_
    have q : Pst G (wAt W σ) ρ H' (.ok (.tup ds) h') (pV G Q) := q
    refine ⟨a, vs, rfl, ?_⟩
    cases tr with
    | true => exact .inl ⟨.of at', fun p hp => tupV hr r hp q⟩
    | false =>
      rcases at' with z | z
      · exact .inl ⟨by rw [g.K]; exact z, fun p hp => tupV hr r hp q⟩
      · exact .inr ⟨by rw [g.K]; exact z.sq, hereV hr q (R.ofTup z r)⟩
  | all =>
    have ht : tr = true := by rcases ht with h | h; exact h; cases h
    subst ht
    refine pbL g (x := "all") (cr_all g.calm) h1 (by decide) (by decide) (by decide +kernel) ha hs fun ρ ds h' H' a vs σ Q hr r at' q => ?_
    obtain ⟨d, e, q⟩ := Pst.opt q
    have e : (bls ds).map (fun bs => D.bl (bs.all _root_.id)) = some d := e
    cases e2 : bls ds with
    | none => rw [e2] at e; cases e
    | some bs =>
      rw [e2] at e
      cases e
      have ev := bls_ok e2 r
      subst ev
      exact ⟨a, bs, rfl, .of at', hereV hr q (R.ofBl _)⟩
  | any =>
    have ht : tr = true := by rcases ht with h | h; exact h; cases h
    subst ht
    refine pbL g (x := "any") (cr_any g.calm) h1 (by decide) (by decide) (by decide +kernel) ha hs fun ρ ds h' H' a vs σ Q hr r at' q => ?_
    obtain ⟨d, e, q⟩ := Pst.opt q
    have e : (bls ds).map (fun bs => D.bl (bs.any _root_.id)) = some d := e
    cases e2 : bls ds with
    | none => rw [e2] at e; cases e
    | some bs =>
      rw [e2] at e
      cases e
      have ev := bls_ok e2 r
      subst ev
      exact ⟨a, bs, rfl, .of at', hereV hr q (R.ofBl _)⟩
  | sum =>
    have ht : tr = true := by rcases ht with h | h; exact h; cases h
    subst ht
    refine pbL g (x := "sum") (cr_sum g.calm) h1 (by decide) (by decide) (by decide +kernel) ha hs fun ρ ds h' H' a vs σ Q hr r at' q => ?_
    obtain ⟨d, e, q⟩ := Pst.opt q
    have e : (intsD ds).map (fun ns => D.int ns.sum) = some d := e
    cases e2 : intsD ds with
    | none => rw [e2] at e; cases e
    | some ns =>
      rw [e2] at e
      cases e
      have ev := ints_ok e2 r
      subst ev
      exact ⟨a, ns, rfl, .of at', hereV hr q (R.ofInt _)⟩
end
end Ms

/-! What the machine walks, in the model. -/
namespace Ms
open PySem PySem.Spec PyProof.Rows L2 Mx

theorem PI.by {X : Cx} {tg e : Expr} {w' : TI} (h : ∀ σ H R, w' σ H R → ∃ w, PI X tg e w ∧ w σ H R) : PI X tg e w' := ⟨fun pins s σ H R I q => by
  obtain ⟨w, p, z⟩ := h σ H R q
  exact p.run pins s σ H R I z⟩

/-! ### enumerate(text) -/
/-- new pairs of the place and the i-th of f -/
def ItN (n : Nat) (f : Nat → V) : It := ⟨fun i _ => i < n, fun i H v H' => ∃ T, v = .ref T ∧ H T = none ∧ H' = upd H T (.tup [.int (i : Nat), f i]), fun i _ => i = n⟩
def sgn (x : Str) (i : Nat) : V := .str ⟨#[x.cps.getD i 0]⟩
theorem turn_enumS {P : Program} {w : World} {K : PySem.W.Frag} {elts : List Expr} {kk : Nat} {tpos : Pos} (x : Str) (t : Tok) (e it : Addr) :
    Turn P w K (.Tuple elts kk tpos) (ItN x.cps.size (sgn x)) [e, it] e (fun i h => (∃ old, IsEnum h e it ((i : Nat) : Int) old) ∧ h.IsStrIter it (strIterType x) x t i ∧ e ≠ it) where
  mem := by simp
  obj := fun i h st b hb => by
    obtain ⟨⟨old, he⟩, ⟨o, ho, hc, hd⟩, _⟩ := st
    have e' : b = e ∨ b = it := by simpa using hb
    rcases e' with z | z
    · rw [z]; exact ⟨_, he, fun v q => nomatch q⟩
    · rw [z]; exact ⟨o, ho, fun v q => by rw [hd] at q; cases q⟩
  keep := fun i h h' st k => let ⟨⟨old, he⟩, ⟨o, ho, r⟩, hne⟩ := st; ⟨⟨old, k e (by simp) _ he⟩, ⟨o, k it (by simp) o ho, r⟩, hne⟩
  item := by
    intro X hP hw hK hc i pins s σ H E I hf st hg
    subst hP hw hK
    obtain ⟨⟨old, he⟩, hit, hne⟩ := st
    have hel : e < s.heap.objs.size := Heap.lt_size he
    have hil : it < s.heap.objs.size := by obtain ⟨_, q, _⟩ := hit; exact Heap.lt_size q
    have D := Draws.text (prog := X.prog) (w := X.w) (A := X.A.in1) (I.ok.hd hc) it x t
    refine wpAny_pyNext_enum_itemC D he hit hg hne (by simpa using hne) fun v h' tk hP ho hit' hT hsz hk => ?_
    obtain ⟨c, u, hcx, rfl⟩ := hP
    refine ⟨_, rfl, wpAny_letOwnedTupleGo_enum (s := { s with heap := h', toks := tk + 1 }) ho fun h'' he' sb => ?_⟩
    have hT2 : h''.get? s.heap.objs.size = some { cls := .type "tuple", data := .seq #[.int i tk, .str ⟨#[c]⟩ u] } := (sb.2 _ (Nat.ne_of_gt hel)).trans hT
    have hcd : x.cps.getD i 0 = c := by
      have hi : i < x.cps.size := hg
      rw [Array.getElem?_eq_getElem hi] at hcx
      cases hcx
      simp [Array.getD, hi]
    have new : ObjOk X.prog X.w (upd H s.heap.objs.size (.tup [.int (i : Nat), sgn x i])) h'' s.heap.objs.size (.tup [.int (i : Nat), sgn x i]) :=
      ⟨by show 2 ≤ sizeLine; decide, [.int i tk, .str ⟨#[c]⟩ u], .cons ⟨_, rfl⟩ (.cons (show RelV (sgn x i) _ by unfold sgn; rw [hcd]; exact ⟨u, rfl⟩) .nil), ⟨_, hT2, rfl, _, rfl⟩⟩
    have I1 : L2.Inv X pins σ (upd H s.heap.objs.size (.tup [.int (i : Nat), sgn x i])) { s with heap := h'', toks := tk + 1 } :=
      I.turnedNew (ch := [e, it]) (fun b ob hb q => (sb.2 b (fun z => hb (by simp [z]))).trans (hk b ob (fun z => hb (by simp [z])) (fun z => hb (by simp [z])) q)) hf (Nat.le_refl _) new
    refine ⟨.ref s.heap.objs.size, _, I1, rfl, ⟨_, rfl, I.hok.fresh (Nat.le_refl _), rfl⟩, ⟨⟨.str ⟨#[c]⟩ u, ?_⟩, ?_, hne⟩, fun b hb => ?_⟩
    · have e1 : ((i + 1 : Nat) : Int) = (i : Int) + 1 := by omega
      rw [e1]; exact he'
    · obtain ⟨o, ho2, r⟩ := hit'
      exact ⟨o, (sb.2 it (Ne.symm hne)).trans ho2, r⟩
    · have hb' : b < s.heap.objs.size := by
        have e' : b = e ∨ b = it := by simpa using hb
        rcases e' with z | z
        · rw [z]; exact hel
        · rw [z]; exact hil
      rw [upd_ne (Nat.ne_of_lt hb')]
      exact (hf b hb).1
  done := by
    intro X hP hw hK hc i pins s σ H E I hf st hg
    subst hP hw hK
    obtain ⟨⟨old, he⟩, hit, hne⟩ := st
    have D := Draws.text (prog := X.prog) (w := X.w) (A := X.A.in1) (I.ok.hd hc) it x t
    obtain ⟨f0, f1, f2, f3, f4, f5⟩ := hf it (by simp)
    have hg : i = x.cps.size := hg
    rw [hg] at hit
    exact wpAny_pyNext_enum_endD D he hit fun h' eb => ⟨rfl, I.turned (t' := s.toks) (fun b o hb q => eb b o hb q) f0 f1 f3 f4 f5⟩
  self := fun A i s Q E st h => by
    obtain ⟨⟨old, he⟩, _⟩ := st
    exact wpAny_pyIter_enum he h
/-- enumerate(a text) -/
def iEnumS (ta : L2.TA) : TI := fun σ H R => ta σ H fun vs H1 => ∃ x, vs = [.str x] ∧ R (ItN x.cps.size (sgn x)) H1
theorem pi_enumS {X : Cx} {e : Expr} {ta : L2.TA} {px p tpos : Pos} {elts : List Expr} {kk : Nat} (hg : Gl X "enumerate") (hm : X.mg "enumerate" = none) (ha : PA X [e] ta) (hs : starEach [e] X.env = [(false, eval e X.env)]) :
    PI X (.Tuple elts kk tpos) (.Call (.Name "enumerate" px) [e] [] p) (iEnumS ta) := by
  refine ⟨fun pins s σ H R I h => ?_⟩
  refine Call_ (ld_blt I hg hm boot_enumerate (PyProof.Rows.callWith_type1 (thn (ha.run p pins s σ H _ I h) fun us s1 ⟨vs, H1, I1, r1, q1⟩ => ?_) hs rfl))
  obtain ⟨x, ex, q⟩ := q1
  subst ex
  cases r1 with
  | cons r rr =>
    cases rr
    obtain ⟨t, rfl⟩ := r
    refine call_enumerate_str fun h' he hit hsz hk => wpAny_pyIter_enum he ?_
    have I2 : L2.Inv X pins σ H1 { s1 with heap := h' } := I1.kept (t' := s1.toks) hk
    refine ⟨s1.heap.objs.size + 1, [s1.heap.objs.size + 1, s1.heap.objs.size], _, _, H1, rfl, I2, turn_enumS x t (s1.heap.objs.size + 1) s1.heap.objs.size, ⟨⟨.none, he⟩, hit, Nat.succ_ne_self _⟩, fun b hb => ?_, q⟩
    have e' : b = s1.heap.objs.size + 1 ∨ b = s1.heap.objs.size := by simpa using hb
    have hle : s1.heap.objs.size ≤ b := by
      rcases e' with z | z
      · rw [z]; exact Nat.le_add_right _ _
      · rw [z]; exact Nat.le_refl _
    exact I1.fpOk hle (I1.hok.fresh hle)

/-! ### enumerate(tuple) -/
theorem meets_enumerate_newT (l : Addr) (items : Array Value) (o : Obj) (ho : o.cls = .type "tuple") (n : Nat) (hd : o.data = .seq items n) :
    Meets (Builtin.«enumerate.__new__» ⟨[.type "enumerate", .ref l], []⟩) (fun _ R s => s.heap.get? l = some o ∧
      R (.ok (.ret (.ref (s.heap.push { cls := .type "tuple_iterator", data := .fields #[.ref l, .int 0 0] }).objs.size)))
        { s with heap := (s.heap.push { cls := .type "tuple_iterator", data := .fields #[.ref l, .int 0 0] }).push { cls := .type "enumerate", data := .fields #[.none, .bool false, .ref s.heap.objs.size, rawInt 0, .none, .none] } }) :=
  .of_wp fun prog w A R s h => by
    obtain ⟨hp, g, d, tk, os⟩ := s; obtain ⟨hl, h⟩ := h
    obtain ⟨c, dct, dt, sl⟩ := o
    replace ho : c = .type "tuple" := ho
    replace hd : dt = .seq items n := hd
    subst ho hd
    have hsub := sub_enumerate
    have hL : Heap.IsTuple (Shared.heap ⟨hp, g, d, tk, os⟩) l items := ⟨_, hl, rfl, n, rfl⟩
    wp_walk using AutoSeq1.wpAny_loadPart' hl
    refine wpAny_stack_any fun st => wpAny_pure ?_
    split
    · rename_i c _ _ _ _ _
      cases (c == Value.type "enumerate")
      · wp_walk using AutoSeq1.wpAny_loadPart' hl, wpAny_pyIter_tuple hL
        exact ⟨_, rfl, h⟩
      · wp_walk using AutoSeq1.wpAny_loadPart' hl, wpAny_pyIter_tuple hL
        exact ⟨_, rfl, h⟩
    · wp_walk using AutoSeq1.wpAny_loadPart' hl, wpAny_pyIter_tuple hL
      exact ⟨_, rfl, h⟩
theorem call_enumerate_tup {prog : Program} {w : World} {A : Around} {E : Value → Shared → Prop} {s : Shared} {l : Addr} {items : Array Value} {Q : Value → Shared → Prop} (hL : s.heap.IsTuple l items)
    (h : ∀ h', IsEnum h' (s.heap.objs.size + 1) s.heap.objs.size 0 .none → h'.IsTupleIter s.heap.objs.size l 0 → h'.objs.size = s.heap.objs.size + 2 →
      (∀ b o, s.heap.get? b = some o → h'.get? b = some o) → Q (.ref (s.heap.objs.size + 1)) { s with heap := h' }) :
    wpAny (model prog w) A (PySem.call (.type "enumerate") [.ref l]) Q E s := by
  obtain ⟨o, hl, hc, n, hd⟩ := hL
  refine callType_new F.called_enumerate (by decide) (F.typeCall_enumerate_1 _) (F.newCall_enumerate_1 _) (fun obj => F.args_object_init_2 obj _) F.entry_enumerate_new
    (meets_enumerate_newT l items o hc n hd) ⟨hl, ?_⟩
  have hz : (s.heap.push { cls := .type "tuple_iterator", data := .fields #[.ref l, .int 0 0] }).objs.size = s.heap.objs.size + 1 := Heap.size_push ..
  show _ ∧ _
  rw [hz]
  have he : IsEnum ((s.heap.push { cls := .type "tuple_iterator", data := .fields #[.ref l, .int 0 0] }).push
      { cls := .type "enumerate", data := .fields #[.none, .bool false, .ref s.heap.objs.size, rawInt 0, .none, .none] }) (s.heap.objs.size + 1) s.heap.objs.size 0 .none := by
    have := Heap.get?_push_size (s.heap.push { cls := .type "tuple_iterator", data := .fields #[.ref l, .int 0 0] })
      (o := { cls := .type "enumerate", data := .fields #[.none, .bool false, .ref s.heap.objs.size, rawInt 0, .none, .none] }) rfl
    rw [hz] at this; exact this
  refine ⟨⟨_, he, rfl⟩, h _ he ⟨_, Heap.get?_push_of_some _ (Heap.get?_push_size _ rfl), rfl, rfl⟩ (by rw [Heap.size_push, hz]) fun b o x => Heap.get?_push_of_some _ (Heap.get?_push_of_some _ x)⟩
/-- the tuple at a, each item in a new pair -/
def ItE (K : PySem.W.Frag) (a : Addr) : It :=
  ⟨fun i H => ∃ (xs : List V) (x : V), SqT K H a xs ∧ xs[i]? = some x, fun i H v H' => ∃ T x, v = .ref T ∧ H T = none ∧ H' = upd H T (.tup [.int (i : Nat), x]) ∧ ∀ xs, SqT K H a xs → xs[i]? = some x, fun i H => ∃ xs : List V, SqT K H a xs ∧ i = xs.length⟩
theorem turn_enumT {P : Program} {w : World} {K : PySem.W.Frag} {elts : List Expr} {kk : Nat} {tpos : Pos} (a e it : Addr) :
    Turn P w K (.Tuple elts kk tpos) (ItE K a) [e, it] e (fun i h => (∃ old, IsEnum h e it ((i : Nat) : Int) old) ∧ h.IsTupleIter it a i ∧ e ≠ it ∧ a ≠ e ∧ a ≠ it) where
  mem := by simp
  obj := fun i h st b hb => by
    obtain ⟨⟨old, he⟩, ⟨o, ho, hc, hd⟩, _⟩ := st
    have e' : b = e ∨ b = it := by simpa using hb
    rcases e' with z | z
    · rw [z]; exact ⟨_, he, fun v q => nomatch q⟩
    · rw [z]; exact ⟨o, ho, fun v q => by rw [hd] at q; cases q⟩
  keep := fun i h h' st k => let ⟨⟨old, he⟩, ⟨o, ho, r⟩, hne⟩ := st; ⟨⟨old, k e (by simp) _ he⟩, ⟨o, k it (by simp) o ho, r⟩, hne⟩
  item := by
    intro X hP hw hK hc i pins s σ H E I hf st hg
    subst hP hw hK
    obtain ⟨⟨old, he⟩, hit, hne, hae, hai⟩ := st
    obtain ⟨xs, x, hq, hx⟩ := hg
    obtain ⟨its, rv, p, hz⟩ := I.tuple hq
    obtain ⟨u, hu, ru⟩ := rv.get hx
    have hel : e < s.heap.objs.size := Heap.lt_size he
    have hil : it < s.heap.objs.size := by obtain ⟨_, q, _⟩ := hit; exact Heap.lt_size q
    have D := Draws.tuple (prog := X.prog) (w := X.w) (A := X.A.in1) (I.ok.hd hc) it a hai its.toArray
    have hi : i < its.toArray.size := by
      have := (List.getElem?_eq_some_iff.mp hu).1
      simpa using this
    refine wpAny_pyNext_enum_itemC D he ⟨hit, show s.heap.IsTuple a its.toArray from p⟩ hi hne (by simp [hne, Ne.symm hae]) fun v h' tk hP ho hit' hT hsz hk => ?_
    have hv : v = u := by
      have hP : its.toArray[i]? = some v := hP
      rw [show its.toArray[i]? = its[i]? from by simp, hu] at hP
      exact (Option.some.inj hP).symm
    subst hv
    refine ⟨_, rfl, wpAny_letOwnedTupleGo_enum (s := { s with heap := h', toks := tk + 1 }) ho fun h'' he' sb => ?_⟩
    have hT2 : h''.get? s.heap.objs.size = some { cls := .type "tuple", data := .seq #[.int i tk, v] } := (sb.2 _ (Nat.ne_of_gt hel)).trans hT
    have new : ObjOk X.prog X.w (upd H s.heap.objs.size (.tup [.int (i : Nat), x])) h'' s.heap.objs.size (.tup [.int (i : Nat), x]) :=
      ⟨by show 2 ≤ sizeLine; decide, [.int i tk, v], .cons ⟨_, rfl⟩ (.cons ru .nil), ⟨_, hT2, rfl, _, rfl⟩⟩
    have ap : ∀ b ob, b ∉ [e, it] → s.heap.get? b = some ob → h''.get? b = some ob := fun b ob hb q => by
      refine (sb.2 b (fun z => hb (by simp [z]))).trans ?_
      exact hk b ob (fun z => hb (by simp [z])) (fun z => hb (by simp [z])) q
    have I1 : L2.Inv X pins σ (upd H s.heap.objs.size (.tup [.int (i : Nat), x])) { s with heap := h'', toks := tk + 1 } :=
      I.turnedNew (ch := [e, it]) ap hf (Nat.le_refl _) new
    refine ⟨.ref s.heap.objs.size, _, I1, rfl, ⟨_, x, rfl, I.hok.fresh (Nat.le_refl _), rfl, fun ys hy => by rw [I.tuple_inj hy hq]; exact hx⟩, ⟨⟨v, ?_⟩, ?_, hne, hae, hai⟩, fun b hb => ?_⟩
    · have e1 : ((i + 1 : Nat) : Int) = (i : Int) + 1 := by omega
      rw [e1]; exact he'
    · obtain ⟨o, ho2, r⟩ := hit'.1
      exact ⟨o, (sb.2 it (Ne.symm hne)).trans ho2, r⟩
    · have hb' : b < s.heap.objs.size := by
        have e' : b = e ∨ b = it := by simpa using hb
        rcases e' with z | z
        · rw [z]; exact hel
        · rw [z]; exact hil
      rw [upd_ne (Nat.ne_of_lt hb')]
      exact (hf b hb).1
  done := by
    intro X hP hw hK hc i pins s σ H E I hf st hg
    subst hP hw hK
    obtain ⟨⟨old, he⟩, hit, hne, hae, hai⟩ := st
    obtain ⟨xs, hq, hx⟩ := hg
    obtain ⟨its, rv, p, hz⟩ := I.tuple hq
    have D := Draws.tuple (prog := X.prog) (w := X.w) (A := X.A.in1) (I.ok.hd hc) it a hai its.toArray
    obtain ⟨f0, f1, f2, f3, f4, f5⟩ := hf it (by simp)
    have hi : i = its.toArray.size := by rw [hx, rv.length]; simp
    rw [hi] at hit
    exact wpAny_pyNext_enum_endD D he ⟨hit, show s.heap.IsTuple a its.toArray from p⟩ fun h' eb => ⟨rfl, I.turned (t' := s.toks) (fun b o hb q => eb b o hb q) f0 f1 f3 f4 f5⟩
  self := fun A i s Q E st h => by
    obtain ⟨⟨old, he⟩, _⟩ := st
    exact wpAny_pyIter_enum he h
def iEnumT (K : PySem.W.Frag) (ta : L2.TA) : TI := fun σ H R => ta σ H fun vs H1 => ∃ a xs, vs = [.ref a] ∧ SqT K H1 a xs ∧ R (ItE K a) H1
theorem pi_enumT {X : Cx} {e : Expr} {ta : L2.TA} {p pos tpos : Pos} {elts : List Expr} {kk : Nat} (hg : Gl X "enumerate") (hm : X.mg "enumerate" = none) (ha : PA X [e] ta) (hs : starEach [e] X.env = [(false, eval e X.env)]) :
    PI X (.Tuple elts kk tpos) (.Call (.Name "enumerate" p) [e] [] pos) (iEnumT X.K ta) := by
  refine ⟨fun pins s σ H R I h => ?_⟩
  refine Call_ (ld_blt I hg hm boot_enumerate (PyProof.Rows.callWith_type1 (thn (ha.run pos pins s σ H _ I h) fun us s1 ⟨vs, H1, I1, r1, q1⟩ => ?_) hs rfl))
  obtain ⟨a, xs, ex, hq, q⟩ := q1
  subst ex
  cases r1 with
  | cons r rr =>
    cases rr
    cases r
    obtain ⟨its, rv, p', hz⟩ := I1.tuple hq
    have hlt : a < s1.heap.objs.size := by
      obtain ⟨o, ho, _⟩ := p'
      exact Heap.lt_size ho
    refine call_enumerate_tup (show s1.heap.IsTuple a its.toArray from p') fun h' he hit hsz hk => wpAny_pyIter_enum he ?_
    have I2 : L2.Inv X pins σ H1 { s1 with heap := h' } := I1.kept (t' := s1.toks) hk
    refine ⟨s1.heap.objs.size + 1, [s1.heap.objs.size + 1, s1.heap.objs.size], _, _, H1, rfl, I2, turn_enumT a (s1.heap.objs.size + 1) s1.heap.objs.size, ⟨⟨.none, he⟩, hit, Nat.succ_ne_self _, Nat.ne_of_lt (Nat.lt_succ_of_lt hlt), Nat.ne_of_lt hlt⟩, fun b hb => ?_, q⟩
    have e' : b = s1.heap.objs.size + 1 ∨ b = s1.heap.objs.size := by simpa using hb
    have hle : s1.heap.objs.size ≤ b := by
      rcases e' with z | z
      · rw [z]; exact Nat.le_add_right _ _
      · rw [z]; exact Nat.le_refl _
    exact I1.fpOk hle (I1.hok.fresh hle)

/-! ### what a walk gives -/
/-- J walks the items of w, from the state (ρ, H) on, while the list that is walked stands -/
structure Wlk (G : GL) (ρ : Rho) (H : Hp) (w : Wk) (J : It) : Prop where
  go : ∀ (i : Nat) (fr : List (Addr × List V)) (ρ' : Rho) (h' : AH) (H' : Hp), i < w.1.length → ρ <+: ρ' → Kp H H' → HR (G.wf fr) ρ' h' H' → grd w.2 h' = true → J.go i H'
  stop : ∀ (fr : List (Addr × List V)) (ρ' : Rho) (h' : AH) (H' : Hp), ρ <+: ρ' → Kp H H' → HR (G.wf fr) ρ' h' H' → grd w.2 h' = true → J.stop w.1.length H'
  yld : ∀ (i : Nat) (fr : List (Addr × List V)) (ρ' : Rho) (h' : AH) (H' : Hp) (x : V) (H'' : Hp), i < w.1.length → ρ <+: ρ' → Kp H H' → HR (G.wf fr) ρ' h' H' → grd w.2 h' = true → J.yld i H' x H'' →
    ∃ d, w.1[i]? = some d ∧ R G.K ρ' H'' d x ∧ HR (G.wf fr) ρ' h' H'' ∧ Kp H' H''
section
variable {G : GL} {F : Cf} {N : List Str} {sc : List (Str × NameKind)} {W : WX} {X : Cx}
def pI (G : GL) (Rr : It → Hp → Prop) : Wk → Rho → AH → Hp → Prop := fun w ρ h H => grd w.2 h = true → ∀ J, Wlk G ρ H w J → Rr J H
def tI (G : GL) (W : WX) (m : M Wk) : TI := fun σ H Rr => rd G W m σ H (pI G Rr)
theorem wlk_list {ρ : Rho} {h : AH} {H : Hp} {l : Nat} {a : Addr} {xs : List D} (hr : HR G ρ h H) (e : ρ[l]? = some a) : Wlk G ρ H (xs, some (l, xs)) (Itl G.K a) := by
  have get : ∀ {fr : List (Addr × List V)} {ρ' : Rho} {h' : AH} {H' : Hp}, ρ <+: ρ' → HR (G.wf fr) ρ' h' H' → grd (some (l, xs)) h' = true → ∃ vs, SqL G.K H' a vs ∧ RL G.K ρ' H' xs vs := fun p hr' hg => hr'.seq (pre_get p e) (of_decide_eq_true hg)
  refine ⟨fun i fr ρ' h' H' hi p k hr' hg => ?_, fun fr ρ' h' H' p k hr' hg => ?_, fun i fr ρ' h' H' x H'' hi p k hr' hg y => ?_⟩
  · obtain ⟨vs, h1, h2⟩ := get p hr' hg
    have : i < vs.length := by rw [h2.length]; exact hi
    exact ⟨vs, vs[i], h1, by simp [this]⟩
  · obtain ⟨vs, h1, h2⟩ := get p hr' hg
    exact ⟨vs, h1, by rw [h2.length]; exact Nat.le_refl _⟩
  · obtain ⟨vs, h1, h2⟩ := get p hr' hg
    obtain ⟨rfl, y⟩ := y
    have hd : xs[i]? = some xs[i] := by simp [show i < xs.length from hi]
    obtain ⟨v, g1, g2⟩ := h2.get hd
    have := y vs h1
    rw [g1] at this
    cases this
    exact ⟨_, hd, g2, hr', Kp.refl _⟩
theorem wlk_tup {ρ : Rho} {H : Hp} {a : Addr} {xs : List D} {vs : List V} (t : TA G.K H a vs) (r : RL G.K ρ H xs vs) : Wlk G ρ H (xs, none) (Itt G.K a) := by
  refine ⟨fun i fr ρ' h' H' hi p k hr' hg => ?_, fun fr ρ' h' H' p k hr' hg => ?_, fun i fr ρ' h' H' x H'' hi p k hr' hg y => ?_⟩
  · have : i < vs.length := by rw [r.length]; exact hi
    exact ⟨vs, vs[i], (t.mono k).sq, by simp [this]⟩
  · exact ⟨vs, (t.mono k).sq, by rw [r.length]; exact Nat.le_refl _⟩
  · obtain ⟨rfl, y⟩ := y
    have hd : xs[i]? = some xs[i] := by simp [show i < xs.length from hi]
    obtain ⟨v, g1, g2⟩ := r.get hd
    have := y vs (t.mono k).sq
    rw [g1] at this
    cases this
    exact ⟨_, hd, g2.mono p k, hr', Kp.refl _⟩
theorem chars_get (z : List Nat) (i : Nat) : (chars z)[i]? = (z[i]?).map fun c => D.str [c] := by simp [chars]
theorem wlk_str {ρ : Rho} {H : Hp} (z : List Nat) : Wlk G ρ H (chars z, none) (Its (sS z)) := by
  refine ⟨fun i fr ρ' h' H' hi p k hr' hg => ?_, fun fr ρ' h' H' p k hr' hg => ?_, fun i fr ρ' h' H' x H'' hi p k hr' hg y => ?_⟩
  · show i < (sS z).cps.size
    simpa [sS, chars] using hi
  · show (sS z).cps.size ≤ _
    simp [sS, chars]
  · obtain ⟨rfl, c, y, rfl⟩ := y
    have y' : z[i]? = some c := by simpa [sS] using y
    exact ⟨.str [c], by rw [chars_get, y']; rfl, R.ofStr _, hr', Kp.refl _⟩
theorem rngF_get : ∀ (n : Nat) (lo : Int) (i : Nat), i < n → (rngF lo n)[i]? = some (.int (lo + i))
  | 0, _, _, h => absurd h (Nat.not_lt_zero _)
  | n + 1, lo, 0, _ => by simp [rngF]
  | n + 1, lo, i + 1, h => by
    rw [rngF, List.getElem?_cons_succ, rngF_get n (lo + 1) i (by omega)]
    congr 2
    omega
theorem rngF_len : ∀ (n : Nat) (lo : Int), (rngF lo n).length = n
  | 0, _ => rfl
  | n + 1, lo => by rw [rngF, List.length_cons, rngF_len n]
theorem wlk_rng {ρ : Rho} {H : Hp} (lo : Int) (n : Nat) : Wlk G ρ H (rngF lo n, none) (Itr lo n) := by
  refine ⟨fun i fr ρ' h' H' hi p k hr' hg => ?_, fun fr ρ' h' H' p k hr' hg => ?_, fun i fr ρ' h' H' x H'' hi p k hr' hg y => ?_⟩
  · have hi : i < (rngF lo n).length := hi
    rw [rngF_len] at hi
    exact hi
  · show n ≤ (rngF lo n).length
    rw [rngF_len]; exact Nat.le_refl _
  · obtain ⟨rfl, rfl⟩ := y
    have hi : i < (rngF lo n).length := hi
    rw [rngF_len] at hi
    exact ⟨_, rngF_get n lo i hi, R.ofInt _, hr', Kp.refl _⟩
theorem enumF_get : ∀ (xs : List D) (k i : Nat), (enumF k xs)[i]? = (xs[i]?).map fun x => D.tup [.int ((k + i : Nat) : Int), x]
  | [], k, i => by simp [enumF]
  | x :: xs, k, 0 => by simp [enumF]
  | x :: xs, k, i + 1 => by
    rw [enumF, List.getElem?_cons_succ, List.getElem?_cons_succ, enumF_get xs (k + 1) i]
    congr 2
    funext y
    have : k + 1 + i = k + (i + 1) := by omega
    rw [this]
theorem enumF_len : ∀ (xs : List D) (k : Nat), (enumF k xs).length = xs.length
  | [], _ => rfl
  | x :: xs, k => by rw [enumF, List.length_cons, List.length_cons, enumF_len xs]
/-- a new pair of the place and an item -/
theorem pair_new {ρ : Rho} {h : AH} {H : Hp} {d : D} {v : V} {i : Nat} {T : Addr} (hr : HR G ρ h H) (n : H T = none) (r : R G.K ρ H d v) :
    R G.K ρ (upd H T (.tup [.int (i : Nat), v])) (.tup [.int ((0 + i : Nat) : Int), d]) (.ref T) ∧ HR G ρ h (upd H T (.tup [.int (i : Nat), v])) ∧ Kp H (upd H T (.tup [.int (i : Nat), v])) := by
  refine ⟨R.ofTup (.inl upd_same) (RL.cons ?_ (RL.cons (r.mono (List.prefix_refl _) (Kp.new n)) RL.nil)), hr.junk n, Kp.new n⟩
  rw [Nat.zero_add]
  exact R.ofInt _
theorem wlk_enumL {ρ : Rho} {h : AH} {H : Hp} {l : Nat} {a : Addr} {xs : List D} (hr : HR G ρ h H) (e : ρ[l]? = some a) : Wlk G ρ H (enumF 0 xs, some (l, xs)) (Ite G.K a) := by
  have get : ∀ {fr : List (Addr × List V)} {ρ' : Rho} {h' : AH} {H' : Hp}, ρ <+: ρ' → HR (G.wf fr) ρ' h' H' → grd (some (l, xs)) h' = true → ∃ vs, SqL G.K H' a vs ∧ RL G.K ρ' H' xs vs := fun p hr' hg => hr'.seq (pre_get p e) (of_decide_eq_true hg)
  refine ⟨fun i fr ρ' h' H' hi p k hr' hg => ?_, fun fr ρ' h' H' p k hr' hg => ?_, fun i fr ρ' h' H' x H'' hi p k hr' hg y => ?_⟩
  · obtain ⟨vs, h1, h2⟩ := get p hr' hg
    have hi : i < (enumF 0 xs).length := hi
    rw [enumF_len] at hi
    have : i < vs.length := by rw [h2.length]; exact hi
    exact ⟨vs, vs[i], h1, by simp [this]⟩
  · obtain ⟨vs, h1, h2⟩ := get p hr' hg
    refine ⟨vs, h1, ?_⟩
    show vs.length ≤ (enumF 0 xs).length
    rw [enumF_len, h2.length]; exact Nat.le_refl _
  · obtain ⟨vs, h1, h2⟩ := get p hr' hg
    obtain ⟨T, v, rfl, n, rfl, y⟩ := y
    have hi : i < (enumF 0 xs).length := hi
    rw [enumF_len] at hi
    have hd : xs[i]? = some xs[i] := by simp [hi]
    obtain ⟨w, g1, g2⟩ := h2.get hd
    have := y vs h1
    rw [g1] at this
    cases this
    obtain ⟨z1, z2, z3⟩ := pair_new (i := i) hr' n g2
    exact ⟨_, by rw [show (enumF 0 xs, some (l, xs)).1 = enumF 0 xs from rfl, enumF_get, hd]; rfl, z1, z2, z3⟩
theorem wlk_enumT {ρ : Rho} {H : Hp} {a : Addr} {xs : List D} {vs : List V} (t : TA G.K H a vs) (r : RL G.K ρ H xs vs) : Wlk G ρ H (enumF 0 xs, none) (ItE G.K a) := by
  refine ⟨fun i fr ρ' h' H' hi p k hr' hg => ?_, fun fr ρ' h' H' p k hr' hg => ?_, fun i fr ρ' h' H' x H'' hi p k hr' hg y => ?_⟩
  · have hi : i < (enumF 0 xs).length := hi
    rw [enumF_len] at hi
    have : i < vs.length := by rw [r.length]; exact hi
    exact ⟨vs, vs[i], (t.mono k).sq, by simp [this]⟩
  · refine ⟨vs, (t.mono k).sq, ?_⟩
    show (enumF 0 xs).length = vs.length
    rw [enumF_len, r.length]
  · obtain ⟨T, v, rfl, n, rfl, y⟩ := y
    have hi : i < (enumF 0 xs).length := hi
    rw [enumF_len] at hi
    have hd : xs[i]? = some xs[i] := by simp [hi]
    obtain ⟨w, g1, g2⟩ := r.get hd
    have := y vs (t.mono k).sq
    rw [g1] at this
    cases this
    obtain ⟨z1, z2, z3⟩ := pair_new (i := i) hr' n (g2.mono p k)
    exact ⟨_, by rw [show (enumF 0 xs, (none : Option (Nat × List D))).1 = enumF 0 xs from rfl, enumF_get, hd]; rfl, z1, z2, z3⟩
theorem wlk_enumS {ρ : Rho} {H : Hp} (z : List Nat) : Wlk G ρ H (enumF 0 (chars z), none) (ItN (sS z).cps.size (sgn (sS z))) := by
  have ln : (enumF 0 (chars z)).length = (sS z).cps.size := by rw [enumF_len]; simp [chars, sS]
  refine ⟨fun i fr ρ' h' H' hi p k hr' hg => ?_, fun fr ρ' h' H' p k hr' hg => ln, fun i fr ρ' h' H' x H'' hi p k hr' hg y => ?_⟩
  · rw [show (enumF 0 (chars z), (none : Option (Nat × List D))).1 = enumF 0 (chars z) from rfl, ln] at hi
    exact hi
  · obtain ⟨T, rfl, n, rfl⟩ := y
    have hi2 : i < z.length := by
      rw [show (enumF 0 (chars z), (none : Option (Nat × List D))).1 = enumF 0 (chars z) from rfl, ln] at hi
      simpa [sS] using hi
    have hd : (chars z)[i]? = some (.str [z[i]]) := by rw [chars_get]; simp [hi2]
    have hs : sgn (sS z) i = .str (sS [z[i]]) := by
      unfold sgn sS
      simp [Array.getD, hi2]
    obtain ⟨z1, z2, z3⟩ := pair_new (i := i) (d := .str [z[i]]) (v := sgn (sS z) i) hr' n (by rw [hs]; exact R.ofStr _)
    exact ⟨_, by rw [show (enumF 0 (chars z), (none : Option (Nat × List D))).1 = enumF 0 (chars z) from rfl, enumF_get, hd]; rfl, z1, z2, z3⟩
theorem grd_here {h : AH} {l : Nat} {xs : List D} (e : lstAt h l = some xs) : grd (some (l, xs)) h = true := decide_eq_true e

/-- a case of what is told -/
theorem rdE {m : M D} {σ : L2.St} {H : Hp} {Q : VK} {ρ : Rho} {ds : Sl} {h : AH} {r : Rs D} (sr : SR G.K ρ H ds σ) (hr : HR G ρ h H) (e : m ds h = r) (p : Pst G (wAt W σ) ρ H r (pV G Q)) : tE G W m σ H Q := ⟨ρ, ds, h, sr, hr, by rw [e]; exact p⟩
theorem tup_sq {K : PySem.W.Frag} {H : Hp} {a : Addr} {vs : List V} (t : TA K H a vs) : ∃ xs, SqT K H a xs := ⟨vs, t.sq⟩
theorem pseq {e : E} {tg : Expr} (g : X.K = G.K) (ha : PE X e.src (tE G W (ev F e))) : PI X tg (E.iseq e).src (tI G W (evi F (.iseq e))) := by
  refine PI.by fun σ H Rr ⟨ρ, ds, h, sr, hr, p⟩ => ?_
  have p : Pst G (wAt W σ) ρ H ((ev F e ds h).bnd fun x h1 => optR (seqop x h1) h1) (pI G Rr) := p
  cases q : ev F e ds h with
  | ok x h1 =>
    rw [q] at p
    obtain ⟨w, ew, p⟩ := Pst.opt (show Pst G (wAt W σ) ρ H (optR (seqop x h1) h1) (pI G Rr) from p)
    cases x with
    | tup xs =>
      cases ew
      refine ⟨_, pi_tup ha, rdE sr hr q fun ρ' H' pre kp hr' v r => ?_⟩
      obtain ⟨a, vs, rfl, t, l⟩ := r.tup
      exact ⟨a, rfl, by rw [g]; exact tup_sq t, by rw [g]; exact p ρ' H' pre kp hr' rfl _ (wlk_tup t l)⟩
    | str z =>
      cases ew
      refine ⟨_, pi_str ha, rdE sr hr q fun ρ' H' pre kp hr' v r => ?_⟩
      rw [r.str]
      exact ⟨_, rfl, p ρ' H' pre kp hr' rfl _ (wlk_str z)⟩
    | ref l =>
      have ew : (lstAt h1 l).map (fun xs => (xs, some (l, xs))) = some w := ew
      cases e2 : lstAt h1 l with
      | none => rw [e2] at ew; cases ew
      | some xs =>
        rw [e2] at ew
        cases ew
        refine ⟨_, pi_list ha, rdE sr hr q fun ρ' H' pre kp hr' v r => ?_⟩
        obtain ⟨a, rfl, ea⟩ := r.ref
        obtain ⟨vs, s1, s2⟩ := hr'.seq ea e2
        exact ⟨a, rfl, ⟨vs, by rw [g]; exact s1⟩, by rw [g]; exact p ρ' H' pre kp hr' (grd_here e2) _ (wlk_list hr' ea)⟩
    | _ => cases ew
  | ex c fs h1 =>
    rw [q] at p
    exact ⟨_, pi_list ha, rdE sr hr q p⟩
  | no => rw [q] at p; exact p.elim
theorem prng1 (g : GX G F N sc W X) {e : E} {tg : Expr} {px p : Pos} (h1 : isGlo sc "range" = true) (ha : PE X e.src (tE G W (ev F e))) : PI X tg (E.irng1 e px p).src (tI G W (evi F (.irng1 e px p))) := by
  refine PI.by fun σ H Rr w => ⟨_, pi_range1 (g.sco.gl h1) (gblt g (by decide)) (pa_cons ha pa_nil (src_star e [] _)) (src_star e [] _), one w fun ρ ds x h' H' v sr hr r q => ?_⟩
  obtain ⟨wk, ew, q⟩ := Pst.opt q
  cases x with
  | int j =>
    have ew : (if smallI j = true then some (rngF 0 j.toNat, none) else none) = some wk := ew
    split at ew
    · rename_i hj
      cases ew
      rw [r.int]
      have hj := of_decide_eq_true hj
      exact ⟨j, rfl, hj.1, hj.2, q.here hr rfl _ (wlk_rng 0 j.toNat)⟩
    · cases ew
  | _ => cases ew
theorem prng2 (g : GX G F N sc W X) {e e2 : E} {tg : Expr} {px p : Pos} (h1 : isGlo sc "range" = true) (ha : PE X e.src (tE G W (ev F e))) (hb : PE X e2.src (tE G W (ev F e2))) : PI X tg (E.irng2 e e2 px p).src (tI G W (evi F (.irng2 e e2 px p))) := by
  refine PI.by fun σ H Rr w => ⟨_, pi_range2 (g.sco.gl h1) (gblt g (by decide)) (pa_cons ha (pa_cons hb pa_nil (src_star e2 [] _)) (src_star e [e2.src] _)) (by rw [src_star, src_star]; rfl) (src_star e2 [] _), two w fun ρ ds x y h' H' v v2 sr hr r r2 q => ?_⟩
  obtain ⟨wk, ew, q⟩ := Pst.opt q
  cases x with
  | int i =>
    cases y with
    | int j =>
      have ew : (if (smallI i && smallI j) = true then some (rngF i (j - i).toNat, none) else none) = some wk := ew
      split at ew
      · rename_i hj
        cases ew
        rw [r.int, r2.int]
        rw [Bool.and_eq_true] at hj
        have h1 := of_decide_eq_true hj.1
        have h2 := of_decide_eq_true hj.2
        exact ⟨i, j, rfl, ⟨h1.1, h1.2, h2.1, h2.2⟩, q.here hr rfl _ (wlk_rng i (j - i).toNat)⟩
      · cases ew
    | _ => cases ew
  | _ => cases ew
theorem penum (g : GX G F N sc W X) {e : E} {l : List (Nat × Str × Pos)} {pt px p : Pos} (h1 : isGlo sc "enumerate" = true) (ha : PE X e.src (tE G W (ev F e))) : PI X (Tg.many l pt).src (E.ienum e px p).src (tI G W (evi F (.ienum e px p))) := by
  refine PI.by fun σ H Rr ⟨ρ, ds, h, sr, hr, z⟩ => ?_
  have z : Pst G (wAt W σ) ρ H ((ev F e ds h).bnd fun x h1 => optR ((seqop x h1).map fun w => (enumF 0 w.1, w.2)) h1) (pI G Rr) := z
  cases q : ev F e ds h with
  | ok x h1' =>
    rw [q] at z
    obtain ⟨w, ew, z⟩ := Pst.opt (show Pst G (wAt W σ) ρ H (optR ((seqop x h1').map fun w => (enumF 0 w.1, w.2)) h1') (pI G Rr) from z)
    cases x with
    | str x =>
      cases ew
      refine ⟨_, pi_enumS (g.sco.gl h1) (gblt g (by decide)) (pa_cons ha pa_nil (src_star e [] _)) (src_star e [] _), rdE sr hr q fun ρ' H' pre kp hr' v r => ?_⟩
      rw [r.str]
      exact ⟨_, rfl, z ρ' H' pre kp hr' rfl _ (wlk_enumS x)⟩
    | ref l =>
      have ew : ((lstAt h1' l).map (fun xs => (xs, some (l, xs)))).map (fun w => (enumF 0 w.1, w.2)) = some w := ew
      cases e2 : lstAt h1' l with
      | none => rw [e2] at ew; cases ew
      | some xs =>
        rw [e2] at ew
        cases ew
        refine ⟨_, pi_enum (g.sco.gl h1) (gblt g (by decide)) (pa_cons ha pa_nil (src_star e [] _)) (src_star e [] _), rdE sr hr q fun ρ' H' pre kp hr' v r => ?_⟩
        obtain ⟨a, rfl, ea⟩ := r.ref
        obtain ⟨vs, s1, s2⟩ := hr'.seq ea e2
        exact ⟨a, vs, rfl, by rw [g.K]; exact s1, by rw [g.K]; exact z ρ' H' pre kp hr' (grd_here e2) _ (wlk_enumL hr' ea)⟩
    | tup xs =>
      cases ew
      refine ⟨_, pi_enumT (g.sco.gl h1) (gblt g (by decide)) (pa_cons ha pa_nil (src_star e [] _)) (src_star e [] _), rdE sr hr q fun ρ' H' pre kp hr' v r => ?_⟩
      obtain ⟨a, vs, rfl, t, l⟩ := r.tup
      exact ⟨a, vs, rfl, by rw [g.K]; exact t.sq, by rw [g.K]; exact z ρ' H' pre kp hr' rfl _ (wlk_enumT t l)⟩
    | _ => cases ew
  | ex c fs h1' =>
    rw [q] at z
    exact ⟨_, pi_enumS (g.sco.gl h1) (gblt g (by decide)) (pa_cons ha pa_nil (src_star e [] _)) (src_star e [] _), rdE sr hr q z⟩
  | no => rw [q] at z; exact z.elim
end
end Ms

/-! Rows, truth, tests, displays, subscripts, fields. -/
namespace Ms
open PySem PySem.Spec PyProof.Rows L2 Mx

section
variable {G : GL} {F : Cf} {N : List Str} {sc : List (Str × NameKind)} {W : WX} {X : Cx}
theorem bnd_assoc {α β γ : Type} (r : Rs α) (f : α → AH → Rs β) (k : β → AH → Rs γ) : (r.bnd f).bnd k = r.bnd fun a h => (f a h).bnd k := by cases r <;> rfl
/-- readings of the same value -/
theorem rd_eq {α : Type} {m m' : M α} {σ : L2.St} {H : Hp} {P : α → Rho → AH → Hp → Prop} (e : ∀ s h, m s h = m' s h) (w : rd G W m σ H P) : rd G W m' σ H P := by
  obtain ⟨ρ, ds, h, sr, hr, p⟩ := w
  exact ⟨ρ, ds, h, sr, hr, by rw [← e]; exact p⟩
/-! ### rows -/
theorem pa_anil : PA X E.anil.srcs (tA G W (evs F .anil)) := ⟨fun pos pins s σ H Q I ⟨ρ, ds, h, sr, hr, p⟩ => pa_nil.run pos pins s σ H Q I (Pst.here p hr _ RL.nil)⟩
/-- then the rest of the row -/
theorem rowC {a : M D} {r : M (List D)} {σ : L2.St} {H : Hp} {Q : List V → Hp → Prop} (w : tA G W (fun s h => (a s h).bnd fun x h1 => (r s h1).bnd fun xs h2 => .ok (x :: xs) h2) σ H Q) : tE G W a σ H fun x H1 => tA G W r σ H1 fun xs H2 => Q (x :: xs) H2 := by
  obtain ⟨ρ, ds, h, sr, hr, p⟩ := w
  refine ⟨ρ, ds, h, sr, hr, p.bnd.mono fun x ρ' h' H' pre kp hr' p' v rv => ?_⟩
  exact ⟨ρ', ds, h', sr.mono pre kp, hr', p'.bnd.mono fun xs ρ2 h2 H2 pre2 kp2 hr2 p2 vs rl => p2.here hr2 _ (RL.cons (rv.mono pre2 kp2) rl)⟩
theorem pa_acons {a r : E} (ha : PE X a.src (tE G W (ev F a))) (hr : PA X r.srcs (tA G W (evs F r))) : PA X (E.acons a r).srcs (tA G W (evs F (.acons a r))) :=
  ⟨fun pos pins s σ H Q I w => (pa_cons ha hr (src_star a _ _)).run pos pins s σ H Q I (rowC w)⟩
/-- a row, its items being told -/
def isArgs : E → Bool
  | .anil => true
  | .acons _ r => isArgs r
  | _ => false
/-- its expressions -/
def items : E → List E
  | .acons a r => a :: items r
  | _ => []
/-! ### truth -/
theorem tru_ok2 (g : X.K = G.K) {ρ : Rho} {h : AH} {H : Hp} {d : D} {v : V} {k : Bool} (hr : HR G ρ h H) (r : R G.K ρ H d v) (e : tru h d = some k) : TruV X.K v H k := by
  cases d with
  | non => rw [r.non]; cases e; rfl
  | bl b => rw [r.bl]; cases e; rfl
  | int i => rw [r.int]; cases e; rfl
  | str z =>
    rw [r.str]
    have e : (if z.length ≤ SZ then some (!z.isEmpty) else none) = some k := e
    split at e
    · rename_i hz
      cases e
      refine ⟨by rw [sS_len, ← SZ_eq]; exact hz, ?_⟩
      rw [sS_len]
      cases z with
      | nil => rfl
      | cons a b =>
        simp only [List.isEmpty_cons, List.length_cons]
        symm
        rw [Bool.not_false, bne_iff_ne]
        omega
    · cases e
  | tup xs =>
    obtain ⟨a, vs, rfl, t, l⟩ := r.tup
    cases e
    exact .inr (.inl ⟨vs, by rw [g]; exact t.sq, by rw [l.nil_iff]⟩)
  | ref l =>
    obtain ⟨a, rfl, ea⟩ := r.ref
    have e : (match h[l]? with
      | some (.lst xs) => some (!xs.isEmpty)
      | some (.frz xs) => some (!xs.isEmpty)
      | some (.dic kvs) => some (!kvs.isEmpty)
      | _ => none) = some k := e
    split at e
    · rename_i xs hx
      cases e
      obtain ⟨vs, h1, h2⟩ := hr.lst ea hx
      exact .inl ⟨vs, .of h1, by rw [h2.nil_iff]⟩
    · rename_i xs hx
      cases e
      obtain ⟨vs, h1, h2⟩ := hr.frz ea hx
      exact .inl ⟨vs, by rw [g]; exact h1.sq, by rw [h2.nil_iff]⟩
    · rename_i xs hx
      exact (hr.dic ea hx).elim
    · cases e
/-- the truth that is told -/
theorem truP (g : X.K = G.K) {β : Type} {ma : M D} {f : D → Bool → AH → Rs β} {P : β → Rho → AH → Hp → Prop} {σ : L2.St} {H : Hp} {R1 : V → Bool → Hp → Prop} (w : rd G W (fun s h => (ma s h).bnd fun x h1 => (truR h1 x).bnd fun k h2 => f x k h2) σ H P)
    (kk : ∀ ρ ds x h' H' v k, SR G.K ρ H' ds σ → HR G ρ h' H' → R G.K ρ H' x v → tru h' x = some k → Pst G (wAt W σ) ρ H' (f x k h') P → R1 v k H') : tE G W ma σ H fun v H1 => ∃ k, TruV X.K v H1 k ∧ R1 v k H1 := by
  refine one w fun ρ ds x h' H' v sr hr r q => ?_
  cases e : tru h' x with
  | none =>
    unfold truR at q
    rw [e] at q
    exact q.elim
  | some k =>
    unfold truR at q
    rw [e] at q
    exact ⟨k, tru_ok2 g hr r e, kk ρ ds x h' H' v k sr hr r e q⟩
theorem pnot (g : X.K = G.K) {a : E} {p : Pos} (ha : PE X a.src (tE G W (ev F a))) : PE X (E.not a p).src (tE G W (ev F (.not a p))) :=
  PE.imp (pe_notT ha) fun σ H Q w => truP g w fun ρ ds x h' H' v k sr hr r e q => hereV hr q (R.ofBl _)
/-- the rest of and, or -/
theorem pbo (g : X.K = G.K) (and : Bool) {p : Pos} : ∀ (r : E) (ea : Expr) (ma : M D), isArgs r = true → PE X ea (tE G W ma) → (∀ e, e ∈ items r → PE X e.src (tE G W (ev F e))) → PE X (.BoolOp (if and = true then .And else .Or) (ea :: r.srcs) p) (tE G W fun s h => (ma s h).bnd fun x h1 => evb F and r x s h1) := by
  intro r
  induction r with
  | anil =>
    intro ea ma _ h _
    refine PE.imp (pe_one h) fun σ H Q w => one w fun ρ ds x h' H' v sr hr r q => ?_
    exact hereV hr q r
  | acons b r' _ ih =>
    intro ea ma hI h hit
    have hb : PE X (.BoolOp (if and = true then .And else .Or) (b.src :: r'.srcs) p) (tE G W fun s h => (ev F b s h).bnd fun y h2 => evb F and r' y s h2) :=
      ih b.src (ev F b) hI (hit b (by unfold items; exact List.mem_cons_self)) fun e he => hit e (by unfold items; exact List.mem_cons_of_mem _ he)
    have key : ∀ σ H Q, tE G W (fun s h => (ma s h).bnd fun x h1 => evb F and (.acons b r') x s h1) σ H Q → tE G W ma σ H fun v H1 => ∃ k, TruV X.K v H1 k ∧ if k = and then tE G W (fun s h => (ev F b s h).bnd fun y h2 => evb F and r' y s h2) σ H1 Q else Q v H1 := by
      intro σ H Q w
      have w : rd G W (fun s h => (ma s h).bnd fun x h1 => (truR h1 x).bnd fun k h2 => if k = and then (ev F b s h2).bnd fun y h3 => evb F and r' y s h3 else .ok x h2) σ H (pV G Q) := w
      obtain ⟨ρ, ds, h0, sr, hr, p⟩ := w
      refine ⟨ρ, ds, h0, sr, hr, p.bnd.mono fun x ρ' h' H' pre kp hr' p' v rv => ?_⟩
      unfold truR at p'
      cases e : tru h' x with
      | none => rw [e] at p'; exact p'.elim
      | some k =>
        rw [e] at p'
        refine ⟨k, tru_ok2 g hr' rv e, ?_⟩
        have p' : Pst G (wAt W σ) ρ' H' (if k = and then (ev F b ds h').bnd fun y h3 => evb F and r' y ds h3 else .ok x h') (pV G Q) := p'
        by_cases hk : k = and
        · rw [if_pos hk] at p' ⊢
          exact ⟨ρ', ds, h', sr.mono pre kp, hr', p'⟩
        · rw [if_neg hk] at p' ⊢
          exact hereV hr' p' rv
    cases and with
    | true => exact PE.imp (pe_andT h hb) key
    | false =>
      refine PE.imp (pe_orT h hb) fun σ H Q w => ?_
      obtain ⟨ρ, ds, h0, sr, hr, p⟩ := key σ H Q w
      refine ⟨ρ, ds, h0, sr, hr, p.mono fun x ρ' h' H' pre kp hr' p' v rv => ?_⟩
      obtain ⟨k, t, z⟩ := p' v rv
      refine ⟨k, t, ?_⟩
      cases k
      · exact z
      · exact z
  | _ => intro ea ma hI; cases hI
/-! ### tests -/
def plainT : E → Bool
  | .not _ _ => false
  | .bo _ _ _ _ => false
  | .ife _ _ _ _ => false
  | .cmp _ _ _ _ => false
  | .cmp2 _ _ _ _ _ _ => false
  | .isnil _ _ _ _ => false
  | .newl (.ldisp _ _) => true
  | .newl (.llist _ _ _) => true
  | .newl (.lsrt _ _ _) => true
  | .newl (.lsrs _ _ _ _ _) => true
  | .newl (.lc _ _ _ _ _ _ _) => true
  | .newl _ => false
  | .lval _ => false
  | .lref _ => false
  | .iseq _ => false
  | _ => true
theorem plainT_ok {e : E} (h : plainT e = true) (env : Env) (whole : Sem Value) : isTrue e.src env whole = (do let v ← whole; standAt e.src.pos; holding [v] (truthy v)) := by
  cases e with
  | newl l =>
    cases l with
    | ldisp _ _ => rfl
    | llist _ _ _ => rfl
    | lsrt _ _ _ => rfl
    | lsrs _ _ _ _ _ => rfl
    | lc _ _ _ _ _ _ _ => rfl
    | _ => cases h
  | not _ _ => cases h
  | bo _ _ _ _ => cases h
  | ife _ _ _ _ => cases h
  | cmp _ _ _ _ => cases h
  | cmp2 _ _ _ _ _ _ => cases h
  | isnil _ _ _ _ => cases h
  | lval _ => cases h
  | lref _ => cases h
  | iseq _ => cases h
  | b1 b e px p => cases b <;> rfl
  | bl b e px p => cases b <;> rfl
  | _ => rfl
theorem ptV (g : X.K = G.K) {e : E} (h : plainT e = true) (ha : PE X e.src (tE G W (ev F e))) : PT X e.src (tT G W (evt F e)) :=
  PT.by fun σ H Q w => ⟨_, pt_truth ha (plainT_ok h X.env), by
    have w : rd G W (fun s h => (ev F e s h).bnd fun x h1 => (truR h1 x).bnd fun k h2 => Rs.ok k h2) σ H (pB Q) := rd_eq (fun s h => by
      show (ev F e s h).bnd _ = _
      congr 1
      funext x h1
      unfold truR
      cases tru h1 x <;> rfl) w
    exact truP g w fun ρ ds x h' H' v k sr hr r e q => q.here hr⟩
theorem ptNot {a : E} {p : Pos} (ha : PT X a.src (tT G W (evt F a))) : PT X (E.not a p).src (tT G W (evt F (.not a p))) :=
  PT.by fun σ H Q w => ⟨_, pt_not ha, by
    obtain ⟨ρ, ds, h, sr, hr, q⟩ := w
    refine ⟨ρ, ds, h, sr, hr, ?_⟩
    have q : Pst G (wAt W σ) ρ H (((ev F a ds h).bnd fun x h1 => (truR h1 x).bnd fun b h2 => .ok (.bl (!b)) h2).bnd fun x h1 => truR h1 x) (pB Q) := q
    rw [bnd_assoc] at q
    have e : (fun a h => ((truR h a).bnd fun b h2 => Rs.ok (D.bl (!b)) h2).bnd fun x h1 => truR h1 x) = fun (x : D) h1 => (truR h1 x).bnd fun b h2 => .ok (!b) h2 := by
      funext x h1
      unfold truR
      cases tru h1 x <;> rfl
    rw [e, ← bnd_assoc] at q
    exact q.bnd.mono fun k ρ' h' H' pre kp hr' q' => q'.here hr'⟩
/-- the truth of a comparison -/
theorem tru_cmp {o : CO} {x y : D} {Wk : XK} {ρ : Rho} {h : AH} {H : Hp} {Q : Bool → Hp → Prop} (p : Pst G Wk ρ H ((cmpR o x y h).bnd fun z h3 => truR h3 z) (pB Q)) : Pst G Wk ρ H (cmpR o x y h) (pV G fun v H' => ∃ k, v = .bl k ∧ Q k H') := by
  unfold cmpR at p ⊢
  cases e : cmpop o x y h with
  | none => rw [e] at p; exact p
  | some k =>
    rw [e] at p
    intro ρ' H' pre kp hr v r
    exact ⟨k, r.bl, p ρ' H' pre kp hr⟩
theorem pcmp (g : X.K = G.K) (hu : X.A.units + 200 < cLine) {o : CO} {a b : E} {p : Pos} (ha : PE X a.src (tE G W (ev F a))) (hb : PE X b.src (tE G W (ev F b))) : PE X (E.cmp o a b p).src (tE G W (ev F (.cmp o a b p))) :=
  PE.imp (pe_cmpR (op_cmpop g hu o) ha hb (src_mark o b)) fun σ H Q w => two w fun ρ ds x y h' H' v w sr hr r1 r2 q => ⟨ρ, h', x, y, _, hr, r1, r2, q⟩
theorem ptCmp (g : X.K = G.K) (hu : X.A.units + 200 < cLine) {o : CO} {a b : E} {p : Pos} (ha : PE X a.src (tE G W (ev F a))) (hb : PE X b.src (tE G W (ev F b))) : PT X (E.cmp o a b p).src (tT G W (evt F (.cmp o a b p))) :=
  PT.by fun σ H Q w => ⟨_, pt_cmpR (op_cmpop g hu o) ha hb (src_mark o b), by
    have w : rd G W (fun s h => (ev F a s h).bnd fun x h1 => (ev F b s h1).bnd fun y h2 => (cmpR o x y h2).bnd fun z h3 => truR h3 z) σ H (pB Q) := rd_eq (fun s h => by
      show ((ev F a s h).bnd fun x h1 => (ev F b s h1).bnd fun y h2 => cmpR o x y h2).bnd _ = _
      rw [bnd_assoc]
      congr 1
      funext x h1
      rw [bnd_assoc]) w
    exact two w fun ρ ds x y h' H' v w sr hr r1 r2 q => ⟨ρ, h', x, y, _, hr, r1, r2, tru_cmp q⟩⟩
/-- one, two expressions, then what follows by the slots -/
theorem oneS {β : Type} {ma : M D} {f : Sl → D → AH → Rs β} {P : β → Rho → AH → Hp → Prop} {σ : L2.St} {H : Hp} {R1 : V → Hp → Prop} (h : rd G W (fun s h => (ma s h).bnd (f s)) σ H P)
    (k : ∀ ρ ds x h' H' v, SR G.K ρ H' ds σ → HR G ρ h' H' → R G.K ρ H' x v → Pst G (wAt W σ) ρ H' (f ds x h') P → R1 v H') : tE G W ma σ H R1 := by
  obtain ⟨ρ, ds, h0, sr, hr, p⟩ := h
  exact ⟨ρ, ds, h0, sr, hr, p.bnd.mono fun a ρ' h' H' pre kp hr' p' v rv => k ρ' ds a h' H' v (sr.mono pre kp) hr' rv p'⟩
theorem twoS {β : Type} {ma mb : M D} {f : Sl → D → D → AH → Rs β} {P : β → Rho → AH → Hp → Prop} {σ : L2.St} {H : Hp} {R2' : V → V → Hp → Prop} (h : rd G W (fun s h => (ma s h).bnd fun x h1 => (mb s h1).bnd fun y h2 => f s x y h2) σ H P)
    (k : ∀ ρ ds x y h' H' v w, SR G.K ρ H' ds σ → HR G ρ h' H' → R G.K ρ H' x v → R G.K ρ H' y w → Pst G (wAt W σ) ρ H' (f ds x y h') P → R2' v w H') : tE G W ma σ H fun v H1 => tE G W mb σ H1 fun w H2 => R2' v w H2 := by
  obtain ⟨ρ, ds, h0, sr, hr, p⟩ := h
  refine ⟨ρ, ds, h0, sr, hr, p.bnd.mono fun a ρ' h' H' pre kp hr' p' v rv => ?_⟩
  refine ⟨ρ', ds, h', sr.mono pre kp, hr', p'.bnd.mono fun b ρ2 h2 H2 pre2 kp2 hr2 p2 w rw' => ?_⟩
  exact k ρ2 ds a b h2 H2 v w (sr.mono (pre.trans pre2) (kp.trans kp2)) hr2 (rv.mono pre2 kp2) rw' p2
/-- later -/
theorem Pst.later {α : Type} {Wk : XK} {ρ ρ' : Rho} {H H' : Hp} {r : Rs α} {P : α → Rho → AH → Hp → Prop} (p : Pst G Wk ρ H r P) (pre : ρ <+: ρ') (kp : Kp H H') : Pst G Wk ρ' H' r P := by
  cases r with
  | ok d h => exact fun ρ3 H3 p3 k3 hr3 => p ρ3 H3 (pre.trans p3) (kp.trans k3) hr3
  | ex c fs h => exact fun ρ3 H3 x gs p3 k3 hr3 => p ρ3 H3 x gs (pre.trans p3) (kp.trans k3) hr3
  | no => exact p
/-- three are compared -/
theorem chainP {o o' : CO} {a b c : E} {σ : L2.St} {H : Hp} {Q : VK} (w : tE G W (fun s h => (ev F a s h).bnd fun x h1 => (ev F b s h1).bnd fun y h2 => (optR (cmpop o x y h2) h2).bnd fun k h3 => if k = true then (ev F c s h3).bnd fun z h4 => cmpR o' y z h4 else .ok (.bl false) h3) σ H Q) :
    tChain (r2M G (cmpR o)) (r2M G (cmpR o')) (tE G W (ev F a)) (tE G W (ev F b)) (tE G W (ev F c)) σ H Q := by
  refine twoS (f := fun s x y h2 => (optR (cmpop o x y h2) h2).bnd fun k h3 => if k = true then (ev F c s h3).bnd fun z h4 => cmpR o' y z h4 else .ok (.bl false) h3) w fun ρ ds x y h' H' v w sr hr r1 r2 q => ⟨ρ, h', x, y, wAt W σ, hr, r1, r2, ?_⟩
  obtain ⟨k, e, q⟩ : ∃ k, cmpop o x y h' = some k ∧ Pst G (wAt W σ) ρ H' (if k = true then (ev F c ds h').bnd fun z h4 => cmpR o' y z h4 else .ok (.bl false) h') (pV G Q) := by
    cases e : cmpop o x y h' with
    | none => rw [e] at q; exact q.elim
    | some k => rw [e] at q; exact ⟨k, rfl, q⟩
  have e2 : cmpR o x y h' = .ok (.bl k) h' := by unfold cmpR; rw [e]; rfl
  rw [e2]
  intro ρ' H2 pre kp hr' v r
  refine ⟨k, r.bl, ?_⟩
  cases k with
  | true =>
    rw [if_pos rfl] at q ⊢
    refine ⟨ρ', ds, h', sr.mono pre kp, hr', ?_⟩
    have q2 : Pst G (wAt W σ) ρ' H2 ((ev F c ds h').bnd fun z h4 => cmpR o' y z h4) (pV G Q) := q.later pre kp
    exact q2.bnd.mono fun z ρ3 h3 H3 p3 k3 hr3 q3 v3 r3 => ⟨ρ3, h3, y, z, wAt W σ, hr3, r2.mono (pre.trans p3) (kp.trans k3), r3, q3⟩
  | false =>
    rw [if_neg Bool.false_ne_true] at q ⊢
    exact q ρ' H2 pre kp hr' _ (R.ofBl _)
theorem pcmp2 (g : X.K = G.K) (hu : X.A.units + 200 < cLine) {o o' : CO} {a b c : E} {p : Pos} (ha : PE X a.src (tE G W (ev F a))) (hb : PE X b.src (tE G W (ev F b))) (hc : PE X c.src (tE G W (ev F c))) : PE X (E.cmp2 o o' a b c p).src (tE G W (ev F (.cmp2 o o' a b c p))) :=
  PE.imp (pe_chain (op_cmpop g hu o) (op_cmpop g hu o') ha hb hc (by unfold lastMarks lastMarks; exact src_mark o' c)) fun σ H Q w => chainP w
theorem ptCmp2 (g : X.K = G.K) (hu : X.A.units + 200 < cLine) {o o' : CO} {a b c : E} {p : Pos} (ha : PE X a.src (tE G W (ev F a))) (hb : PE X b.src (tE G W (ev F b))) (hc : PE X c.src (tE G W (ev F c))) : PT X (E.cmp2 o o' a b c p).src (tT G W (evt F (.cmp2 o o' a b c p))) :=
  PT.by fun σ H Q w => ⟨_, pt_chain (op_cmpop g hu o) (op_cmpop g hu o') ha hb hc (by unfold lastMarks lastMarks; exact src_mark o' c), by
    refine chainP ?_
    obtain ⟨ρ, ds, h, sr, hr, q⟩ := w
    refine ⟨ρ, ds, h, sr, hr, ?_⟩
    have q : Pst G (wAt W σ) ρ H ((ev F (.cmp2 o o' a b c p) ds h).bnd fun x h1 => truR h1 x) (pB Q) := q
    have q2 := q.bnd
    -- the value is a bool
    have bl : ∀ d h', ev F (.cmp2 o o' a b c p) ds h = .ok d h' → ∃ k, d = .bl k := by
      intro d h' e
      have e : ((ev F a ds h).bnd fun x h1 => (ev F b ds h1).bnd fun y h2 => (optR (cmpop o x y h2) h2).bnd fun k h3 => if k = true then (ev F c ds h3).bnd fun z h4 => cmpR o' y z h4 else .ok (.bl false) h3) = .ok d h' := e
      cases ea : ev F a ds h with
      | ok x h1 =>
        rw [ea] at e
        have e : ((ev F b ds h1).bnd fun y h2 => (optR (cmpop o x y h2) h2).bnd fun k h3 => if k = true then (ev F c ds h3).bnd fun z h4 => cmpR o' y z h4 else .ok (.bl false) h3) = .ok d h' := e
        cases eb : ev F b ds h1 with
        | ok y h2 =>
          rw [eb] at e
          have e : ((optR (cmpop o x y h2) h2).bnd fun k h3 => if k = true then (ev F c ds h3).bnd fun z h4 => cmpR o' y z h4 else .ok (.bl false) h3) = .ok d h' := e
          cases ek : cmpop o x y h2 with
          | none => rw [ek] at e; cases e
          | some k =>
            rw [ek] at e
            have e : (if k = true then (ev F c ds h2).bnd fun z h4 => cmpR o' y z h4 else .ok (.bl false) h2) = .ok d h' := e
            cases k with
            | false => rw [if_neg Bool.false_ne_true] at e; cases e; exact ⟨_, rfl⟩
            | true =>
              rw [if_pos rfl] at e
              cases ec : ev F c ds h2 with
              | ok z h4 =>
                rw [ec] at e
                have e : cmpR o' y z h4 = .ok d h' := e
                unfold cmpR at e
                cases e5 : cmpop o' y z h4 with
                | none => rw [e5] at e; cases e
                | some k5 => rw [e5] at e; cases e; exact ⟨_, rfl⟩
              | ex c fs h => rw [ec] at e; cases e
              | no => rw [ec] at e; cases e
        | ex c fs h => rw [eb] at e; cases e
        | no => rw [eb] at e; cases e
      | ex c fs h => rw [ea] at e; cases e
      | no => rw [ea] at e; cases e
    show Pst G (wAt W σ) ρ H (ev F (.cmp2 o o' a b c p) ds h) _
    revert q2
    cases e : ev F (.cmp2 o o' a b c p) ds h with
    | ok d h' =>
      intro q2 ρ' H' pre kp hr' v r
      obtain ⟨k, rfl⟩ := bl d h' e
      exact ⟨k, r.bl, (q2 ρ' H' pre kp hr').here hr'⟩
    | ex c fs h' => exact fun q2 => q2
    | no => exact fun q2 => q2⟩
end
end Ms

/-! Tests of and, or, if; displays, subscripts, fields. -/
namespace Ms
open PySem PySem.Spec PyProof.Rows L2 Mx

section
variable {G : GL} {F : Cf} {N : List Str} {sc : List (Str × NameKind)} {W : WX} {X : Cx}
/-- the rest of and, or, as a test -/
theorem ptbo (and : Bool) {p : Pos} : ∀ (r : E) (ea : Expr) (ma : M D), isArgs r = true → PT X ea (tT G W fun s h => (ma s h).bnd fun x h1 => truR h1 x) → (∀ e, e ∈ items r → PT X e.src (tT G W (evt F e))) → PW X (.BoolOp (if and = true then .And else .Or) (ea :: r.srcs) p) (tT G W fun s h => ((ma s h).bnd fun x h1 => evb F and r x s h1).bnd fun x h1 => truR h1 x) := by
  intro r
  induction r with
  | anil =>
    intro ea ma _ h _
    have h2 : PT X ea (tT G W fun s h => ((ma s h).bnd fun x h1 => evb F and .anil x s h1).bnd fun x h1 => truR h1 x) := by
      have e : (fun (s : Sl) h => ((ma s h).bnd fun x h1 => evb F and .anil x s h1).bnd fun x h1 => truR h1 x) = fun s h => (ma s h).bnd fun x h1 => truR h1 x := by
        funext s h
        rw [bnd_assoc]
        rfl
      rw [e]; exact h
    cases and with
    | true => exact pw_and1 h2
    | false => exact pw_or1 h2
  | acons b r' _ ih =>
    intro ea ma hI h hit
    have hb : PW X (.BoolOp (if and = true then .And else .Or) (b.src :: r'.srcs) p) (tT G W fun s h => ((ev F b s h).bnd fun y h2 => evb F and r' y s h2).bnd fun x h1 => truR h1 x) :=
      ih b.src (ev F b) hI (hit b (by unfold items; exact List.mem_cons_self)) fun e he => hit e (by unfold items; exact List.mem_cons_of_mem _ he)
    have key : ∀ σ H Q, tT G W (fun s h => ((ma s h).bnd fun x h1 => evb F and (.acons b r') x s h1).bnd fun x h1 => truR h1 x) σ H Q → tT G W (fun s h => (ma s h).bnd fun x h1 => truR h1 x) σ H fun k H1 => if k = and then tT G W (fun s h => ((ev F b s h).bnd fun y h2 => evb F and r' y s h2).bnd fun x h1 => truR h1 x) σ H1 Q else Q k H1 := by
      intro σ H Q w
      obtain ⟨ρ, ds, h0, sr, hr, p⟩ := w
      refine ⟨ρ, ds, h0, sr, hr, ?_⟩
      have p : Pst G (wAt W σ) ρ H (((ma ds h0).bnd fun x h1 => (truR h1 x).bnd fun k h2 => if k = and then (ev F b ds h2).bnd fun y h3 => evb F and r' y ds h3 else .ok x h2).bnd fun x h1 => truR h1 x) (pB Q) := p
      have e : (((ma ds h0).bnd fun x h1 => (truR h1 x).bnd fun k h2 => if k = and then (ev F b ds h2).bnd fun y h3 => evb F and r' y ds h3 else .ok x h2).bnd fun x h1 => truR h1 x) = ((ma ds h0).bnd fun x h1 => truR h1 x).bnd fun k h2 => if k = and then ((ev F b ds h2).bnd fun y h3 => evb F and r' y ds h3).bnd fun x h1 => truR h1 x else .ok k h2 := by
        rw [bnd_assoc, bnd_assoc]
        congr 1
        funext x h1
        unfold truR
        cases e : tru h1 x with
        | none => rfl
        | some k =>
          show Rs.bnd (if k = and then _ else _) _ = if k = and then _ else _
          by_cases hk : k = and
          · rw [if_pos hk, if_pos hk]
          · rw [if_neg hk, if_neg hk]
            show optR (tru h1 x) h1 = _
            rw [e]; rfl
      rw [e] at p
      refine p.bnd.mono fun k ρ' h' H' pre kp hr' p' => ?_
      show if k = and then _ else _
      by_cases hk : k = and
      · rw [if_pos hk] at p' ⊢
        exact ⟨ρ', ds, h', sr.mono pre kp, hr', p'⟩
      · rw [if_neg hk] at p' ⊢
        exact p'.here hr'
    refine ⟨fun wh pins s σ H Q I w => ?_⟩
    cases and with
    | true =>
      refine (pw_and h hb).run wh pins s σ H Q I ?_
      obtain ⟨ρ, ds, h0, sr, hr, p⟩ := key σ H Q w
      refine ⟨ρ, ds, h0, sr, hr, p.mono fun k ρ' h' H' pre kp hr' p' => ?_⟩
      cases k
      · exact p'
      · exact p'
    | false =>
      refine (pw_or h hb).run wh pins s σ H Q I ?_
      obtain ⟨ρ, ds, h0, sr, hr, p⟩ := key σ H Q w
      refine ⟨ρ, ds, h0, sr, hr, p.mono fun k ρ' h' H' pre kp hr' p' => ?_⟩
      cases k
      · exact p'
      · exact p'
  | _ => intro ea ma hI; cases hI
theorem ptBo (and : Bool) {a r : E} {p : Pos} (hI : isArgs r = true) (ha : PT X a.src (tT G W (evt F a))) (hit : ∀ e, e ∈ items r → PT X e.src (tT G W (evt F e))) : PT X (E.bo and a r p).src (tT G W (evt F (.bo and a r p))) := (ptbo and r a.src (ev F a) hI ha hit).pt
/-- a if c else b, as a test -/
theorem ptIf {c a b : E} {p : Pos} (hc : PT X c.src (tT G W (evt F c))) (ha : PT X a.src (tT G W (evt F a))) (hb : PT X b.src (tT G W (evt F b))) : PT X (E.ife c a b p).src (tT G W (evt F (.ife c a b p))) := by
  refine ⟨fun pins s σ H Q I w => ?_⟩
  obtain ⟨ρ, ds, h0, sr, hr, q⟩ := w
  have q : Pst G (wAt W σ) ρ H (((ev F c ds h0).bnd fun x h1 => (truR h1 x).bnd fun k h2 => if k = true then ev F a ds h2 else ev F b ds h2).bnd fun x h1 => truR h1 x) (pB Q) := q
  have e : (((ev F c ds h0).bnd fun x h1 => (truR h1 x).bnd fun k h2 => if k = true then ev F a ds h2 else ev F b ds h2).bnd fun x h1 => truR h1 x) = (evt F c ds h0).bnd fun k h2 => if k = true then evt F a ds h2 else evt F b ds h2 := by
    show _ = ((ev F c ds h0).bnd fun x h1 => truR h1 x).bnd _
    rw [bnd_assoc, bnd_assoc]
    congr 1
    funext x h1
    unfold truR
    cases tru h1 x with
    | none => rfl
    | some k => cases k <;> rfl
  rw [e] at q
  refine isTrue_IfExp (thn (hc.run pins s σ H (fun k H1 => if k = true then tT G W (evt F a) σ H1 Q else tT G W (evt F b) σ H1 Q) I ⟨ρ, ds, h0, sr, hr, q.bnd.mono fun k ρ' h' H' pre kp hr' q' => ?_⟩) fun d s1 ⟨H1, I1, q1⟩ => ?_)
  · cases k with
    | true => exact ⟨ρ', ds, h', sr.mono pre kp, hr', q'⟩
    | false => exact ⟨ρ', ds, h', sr.mono pre kp, hr', q'⟩
  · cases d with
    | true => exact ha.run pins s1 σ H1 Q I1 q1
    | false => exact hb.run pins s1 σ H1 Q I1 q1
theorem pife {c a b : E} {p : Pos} (hc : PT X c.src (tT G W (evt F c))) (ha : PE X a.src (tE G W (ev F a))) (hb : PE X b.src (tE G W (ev F b))) : PE X (E.ife c a b p).src (tE G W (ev F (.ife c a b p))) := by
  refine PE.imp (pe_ifExp hc ha hb) fun σ H Q w => ?_
  obtain ⟨ρ, ds, h0, sr, hr, q⟩ := w
  have q : Pst G (wAt W σ) ρ H ((ev F c ds h0).bnd fun x h1 => (truR h1 x).bnd fun k h2 => if k = true then ev F a ds h2 else ev F b ds h2) (pV G Q) := q
  have e : ((ev F c ds h0).bnd fun x h1 => (truR h1 x).bnd fun k h2 => if k = true then ev F a ds h2 else ev F b ds h2) = (evt F c ds h0).bnd fun k h2 => if k = true then ev F a ds h2 else ev F b ds h2 := by
    show _ = ((ev F c ds h0).bnd fun x h1 => truR h1 x).bnd _
    rw [bnd_assoc]
  rw [e] at q
  refine ⟨ρ, ds, h0, sr, hr, q.bnd.mono fun k ρ' h' H' pre kp hr' q' => ?_⟩
  show if k = true then _ else _
  cases k with
  | true => exact ⟨ρ', ds, h', sr.mono pre kp, hr', q'⟩
  | false => exact ⟨ρ', ds, h', sr.mono pre kp, hr', q'⟩
/-! ### displays -/
theorem ptup {es : E} {p : Pos} (ha : PA X es.srcs (tA G W (evs F es))) : PE X (E.tup es p).src (tE G W (ev F (.tup es p))) :=
  PE.imp (pe_tup ha) fun σ H Q w => row w fun ρ ds xs h' H' vs sr hr rl q => by
    obtain ⟨hz, q⟩ := Pst.ite q
    exact ⟨by rw [rl.length, ← SZ_eq]; exact hz, fun p hp => tupV hr rl hp q⟩
/-! ### new lists -/
/-- a new list, its items being told -/
def pN (G : GL) (Q : VK) : List D → Rho → AH → Hp → Prop := fun ds ρ _ H => ∀ vs p, RL G.K ρ H ds vs → H p = none → Q (.ref p) (upd H p (.lst vs))
def tN (G : GL) (W : WX) (m : M (List D)) : TE := fun σ H Q => rd G W m σ H (pN G Q)
theorem newN {l : E} (h : PE X l.src (tN G W (evl F l))) : PE X (E.newl l).src (tE G W (ev F (.newl l))) :=
  PE.imp h fun σ H Q w => by
    obtain ⟨ρ, ds, h0, sr, hr, p⟩ := w
    have p : Pst G (wAt W σ) ρ H ((evl F l ds h0).bnd fun xs h1 => if xs.length ≤ SZ then alloc (.lst xs) h1 else .no) (pV G Q) := p
    refine ⟨ρ, ds, h0, sr, hr, p.bnd.mono fun xs ρ' h' H' pre kp hr' p' vs q rl hq => ?_⟩
    obtain ⟨_, p'⟩ := Pst.ite p'
    exact layV hr' rl hq p'
theorem newL {l : E} (h : PE X l.src (tN G W (evl F l))) : PE X l.src (tL G W true (evl F l)) :=
  PE.imp h fun σ H Q w => by
    obtain ⟨ρ, ds, h0, sr, hr, p⟩ := w
    refine ⟨ρ, ds, h0, sr, hr, ?_⟩
    revert p
    cases evl F l ds h0 with
    | ok xs h1 =>
      exact fun p ρ' H' pre kp hr' vs q rl hq => p ρ' (upd H' q (.lst vs)) pre (kp.trans (Kp.new hq)) (hr'.junk hq) q vs (rl.mono (List.prefix_refl _) (Kp.new hq)) upd_same
    | ex c fs h => exact fun p => p
    | no => exact fun p => p
theorem ldispN {es : E} {p : Pos} (ha : PA X es.srcs (tA G W (evs F es))) : PE X (E.ldisp es p).src (tN G W (evl F (.ldisp es p))) :=
  PE.imp (pe_lst ha) fun σ H Q w => row w fun ρ ds xs h' H' vs sr hr rl q => by
    obtain ⟨hz, q⟩ := Pst.ite q
    exact ⟨by rw [rl.length, ← SZ_eq]; exact hz, fun p hp => q.here hr vs p rl hp⟩
/-! ### subscripts -/
theorem ixn_eq (n : Nat) (i : Int) : L2.ixN n i = ixn n i := rfl
theorem ati_ok {K : PySem.W.Frag} {ρ : Rho} {H : Hp} {ds : List D} {vs : List V} {i : Int} {d : D} (r : RL K ρ H ds vs) (e : ati ds i = some d) : ∃ v, atI vs i = some v ∧ R K ρ H d v := by
  unfold ati at e
  unfold atI
  rw [ixn_eq, r.length]
  cases e2 : ixn ds.length i with
  | none => rw [e2] at e; cases e
  | some j =>
    rw [e2] at e
    exact r.get e
theorem op_ix (g : X.K = G.K) : IxR X (r2M G ixop) := by
  intro value slice pins s σ H x y v u Q I rx ry ⟨ρ, h, dx, dy, Wk, hr, r1, r2, p⟩ hs
  refine ix_seq value slice pins s σ H x y v u Q I rx ry ?_ hs
  cases dx with
  | str z =>
    cases dy with
    | int i =>
      have p : Pst G Wk ρ H (if z.length ≤ SZ then optR ((ati z i).map fun c => .str [c]) h else .no) (pV G Q) := p
      obtain ⟨hz, p⟩ := Pst.ite p
      obtain ⟨d, e, p⟩ := Pst.opt p
      cases e2 : ati z i with
      | none => rw [e2] at e; cases e
      | some c =>
        rw [e2] at e
        cases e
        rw [r1.str, r2.int]
        refine .inr (.inr ⟨sS z, i, c, rfl, rfl, by rw [sS_len, ← SZ_eq]; exact hz, ?_, hereV hr p (R.ofStr _)⟩)
        rw [sS_cps]
        exact e2
    | _ => exact p.elim
  | tup xs =>
    cases dy with
    | int i =>
      obtain ⟨d, e, p⟩ := Pst.opt (show Pst G Wk ρ H (optR (ati xs i) h) (pV G Q) from p)
      obtain ⟨a, vs, rfl, t, rl⟩ := r1.tup
      obtain ⟨w, e2, rw'⟩ := ati_ok rl e
      rw [r2.int]
      exact .inr (.inl ⟨a, vs, i, w, rfl, rfl, by rw [g]; exact t.sq, e2, hereV hr p rw'⟩)
    | _ => exact p.elim
  | ref l =>
    obtain ⟨a, rfl, ea⟩ := r1.ref
    have p : Pst G Wk ρ H (match h[l]? with
      | some (.lst xs) => match (generalizing := false) dy with
        | .int i => optR (ati xs i) h
        | _ => .no
      | some (.frz xs) => match (generalizing := false) dy with
        | .int i => optR (ati xs i) h
        | _ => .no
      | some (.dic kvs) => match (generalizing := false) dep dy with
        | some a => if a ≤ 8 then optR ((kvs.find? fun kv => eqd kv.1 dy).map (·.2)) h else .no
        | none => .no
      | _ => .no) (pV G Q) := p
    split at p
    · rename_i xs hx
      cases dy with
      | int i =>
        obtain ⟨d, e, p⟩ := Pst.opt (show Pst G Wk ρ H (optR (ati xs i) h) (pV G Q) from p)
        obtain ⟨vs, h1, h2⟩ := hr.lst ea hx
        obtain ⟨w, e2, rw'⟩ := ati_ok h2 e
        rw [r2.int]
        exact .inl ⟨a, vs, i, w, rfl, rfl, .of h1, e2, hereV hr p rw'⟩
      | _ => exact p.elim
    · rename_i xs hx
      cases dy with
      | int i =>
        obtain ⟨d, e, p⟩ := Pst.opt (show Pst G Wk ρ H (optR (ati xs i) h) (pV G Q) from p)
        obtain ⟨vs, h1, h2⟩ := hr.frz ea hx
        obtain ⟨w, e2, rw'⟩ := ati_ok h2 e
        rw [r2.int]
        exact .inl ⟨a, vs, i, w, rfl, rfl, by rw [g]; exact h1.sq, e2, hereV hr p rw'⟩
      | _ => exact p.elim
    · rename_i xs hx
      exact (hr.dic ea hx).elim
    · exact p.elim
  | _ => exact p.elim
theorem pix (g : X.K = G.K) {a b : E} {p : Pos} (ha : PE X a.src (tE G W (ev F a))) (hb : PE X b.src (tE G W (ev F b))) : PE X (E.ix a b p).src (tE G W (ev F (.ix a b p))) :=
  PE.imp (pe_ix (op_ix g) ha hb (src_ix b)) fun σ H Q w => two w fun ρ ds x y h' H' v w sr hr r1 r2 q => ⟨ρ, h', x, y, _, hr, r1, r2, q⟩
def tO (G : GL) (W : WX) (m : M (Option Int)) : TO := fun σ H Q => rd G W m σ H fun o _ _ H' => Q o H'
theorem po_onone : PO X E.onone.srco (tO G W (evo F .onone)) := ⟨fun pins s σ H Q I ⟨ρ, ds, h, sr, hr, p⟩ => po_none.run pins s σ H Q I (Pst.here p hr)⟩
theorem po_osome {e : E} (ha : PE X e.src (tE G W (ev F e))) : PO X (E.osome e).srco (tO G W (evo F (.osome e))) := ⟨fun pins s σ H Q I w => (po_some ha).run pins s σ H Q I (one (P := fun o _ _ H' => Q o H') (f := fun x h1 => match x with
    | .int i => .ok (some i) h1
    | _ => .no) w fun ρ ds x h' H' v sr hr r q => by
  cases x with
  | int i => exact ⟨i, r.int, q.here hr⟩
  | _ => exact q.elim)⟩
theorem six_eq (n d : Nat) (o : Option Int) : HT.sIx n d o = six n d o := by cases o <;> rfl
theorem cut_ok {K : PySem.W.Frag} {ρ : Rho} {H : Hp} {ds : List D} {vs : List V} (r : RL K ρ H ds vs) (lo hi : Option Int) : RL K ρ H (cutd ds lo hi) (cutV vs lo hi) := by
  unfold cutd cutV
  rw [six_eq, six_eq, r.length]
  exact (r.drop _).take _
theorem sl_op (g : X.K = G.K) : SlR X fun x lo hi H Q => ∃ (ρ : Rho) (h : AH) (dx : D) (Wk : XK), HR G ρ h H ∧ R G.K ρ H dx x ∧ Pst G Wk ρ H (slcop dx lo hi h) (pV G Q) := by
  intro pins s σ H x v vl vu lo hi sl Q I rx hs pl pu ⟨ρ, h, dx, Wk, hr, r1, p⟩
  cases dx with
  | str z =>
    have p : Pst G Wk ρ H (if z.length ≤ SZ then .ok (.str (cutd z lo hi)) h else .no) (pV G Q) := p
    obtain ⟨hz, p⟩ := Pst.ite p
    refine sl_str pins s σ H x v vl vu lo hi sl Q I rx hs pl pu ⟨sS z, r1.str, by rw [sS_len, ← SZ_eq]; exact hz, hereV hr p ?_⟩
    unfold R
    congr 1
  | tup xs =>
    have p : Pst G Wk ρ H (.ok (.tup (cutd xs lo hi)) h) (pV G Q) := p
    obtain ⟨a, vs, rfl, t, rl⟩ := r1.tup
    refine sl_tupA pins s σ H _ v vl vu lo hi sl Q I rx hs pl pu ⟨a, vs, rfl, by rw [g]; exact t.sq, fun hw => ?_, fun _ p0 hp => ?_⟩
    · have e : cutd xs lo hi = xs := by
        unfold cutd
        rw [six_eq, six_eq, rl.length] at hw
        rw [hw.1, hw.2]
        simp
      rw [e] at p
      exact hereV hr p (R.ofTup t rl)
    · exact tupV hr (cut_ok rl lo hi) hp p
  | ref l =>
    obtain ⟨a, rfl, ea⟩ := r1.ref
    have p : Pst G Wk ρ H (match h[l]? with
      | some (.lst xs) => alloc (.lst (cutd xs lo hi)) h
      | _ => .no) (pV G Q) := p
    split at p
    · rename_i xs hx
      obtain ⟨vs, h1, h2⟩ := hr.lst ea hx
      exact sl_list pins s σ H _ v vl vu lo hi sl Q I rx hs pl pu ⟨a, vs, rfl, .of h1, fun p0 hp => layV hr (cut_ok h2 lo hi) hp p⟩
    · exact p.elim
  | _ => exact p.elim
theorem pslc (g : X.K = G.K) {a lo hi : E} {p2 p : Pos} (ha : PE X a.src (tE G W (ev F a))) (hl : PO X lo.srco (tO G W (evo F lo))) (hh : PO X hi.srco (tO G W (evo F hi))) : PE X (E.slc a lo hi p2 p).src (tE G W (ev F (.slc a lo hi p2 p))) := by
  refine PE.imp (pe_slice (sl_op g) ha hl hh) fun σ H Q w => ?_
  obtain ⟨ρ, ds, h, sr, hr, q⟩ := w
  have q : Pst G (wAt W σ) ρ H ((ev F a ds h).bnd fun x h1 => (evo F lo ds h1).bnd fun l h2 => (evo F hi ds h2).bnd fun u h3 => slcop x l u h3) (pV G Q) := q
  refine ⟨ρ, ds, h, sr, hr, q.bnd.mono fun x ρ1 h1 H1 p1 k1 hr1 q1 v r => ?_⟩
  refine ⟨ρ1, ds, h1, sr.mono p1 k1, hr1, q1.bnd.mono fun l ρ2 h2 H2 p2 k2 hr2 q2 => ?_⟩
  refine ⟨ρ2, ds, h2, (sr.mono p1 k1).mono p2 k2, hr2, q2.bnd.mono fun u ρ3 h3 H3 p3 k3 hr3 q3 => ?_⟩
  exact ⟨ρ3, h3, x, _, hr3, r.mono (p2.trans p3) (k2.trans k3), q3⟩
theorem prev (g : X.K = G.K) {a : E} {p1 p2 p3 p : Pos} (ha : PE X a.src (tE G W (ev F a))) : PE X (E.rev a p1 p2 p3 p).src (tE G W (ev F (.rev a p1 p2 p3 p))) :=
  PE.imp (pe_revL ha) fun σ H Q w => one w fun ρ ds x h' H' v sr hr r q => by
    cases x with
    | ref l =>
      obtain ⟨a, rfl, ea⟩ := r.ref
      have q : Pst G (wAt W σ) ρ H' (match h'[l]? with
        | some (.lst xs) => alloc (.lst xs.reverse) h'
        | _ => .no) (pV G Q) := q
      split at q
      · rename_i xs hx
        obtain ⟨vs, h1, h2⟩ := hr.lst ea hx
        exact ⟨a, vs, rfl, .of h1, fun p hp => layV hr h2.rev hp q⟩
      · exact q.elim
    | _ => exact q.elim
/-! ### fields -/
theorem fget_mem : ∀ {fs : Fs} {f : Nat} {d : D}, fget fs f = some d → (f, d) ∈ fs
  | [], _, _, e => by cases e
  | (i, x) :: r, f, d, e => by
    unfold fget at e
    split at e
    · rename_i hf
      cases e
      rw [hf]
      exact List.mem_cons_self
    · exact List.mem_cons_of_mem _ (fget_mem e)
theorem patt (g : GX G F N sc W X) {a : E} {f : Nat} {x : Str} {p : Pos} (h1 : G.nms[f]? = some x) (h2 : noSuper a = true) (ha : PE X a.src (tE G W (ev F a))) : PE X (E.att a f x p).src (tE G W (ev F (.att a f x p))) :=
  PE.imp (pe_fld ha (src_base h2 x X.env)) fun σ H Q w => one w fun ρ ds d h' H' v sr hr r q => by
    cases d with
    | ref l =>
      obtain ⟨a, rfl, ea⟩ := r.ref
      have q : Pst G (wAt W σ) ρ H' (match h'[l]? with
        | some (.ins _ fs) => optR (fget fs f) h'
        | _ => .no) (pV G Q) := q
      split at q
      · rename_i c fs hx
        obtain ⟨d, e, q⟩ := Pst.opt q
        obtain ⟨dx, gs, h3, h4, h5, h6⟩ := hr.ins ea hx
        obtain ⟨u, e1, e2⟩ := h4.get g.gf.nnd h1 e
        obtain ⟨i, hi⟩ := Option.isSome_iff_exists.mp h5
        have hm := fget_mem e
        exact ⟨a, _, dx, gs, u, rfl, h3, by rw [g.K]; exact (g.gf.ins c i hi).1, by rw [g.K]; exact g.gf.nat c i f x hi (h6 _ hm) h1, e1, hereV hr q e2⟩
      · exact q.elim
    | _ => exact q.elim
end
end Ms

/-! Calls: defs, makers, methods; isinstance, join, extend, append, pop and the text methods. -/
namespace Ms
open PySem PySem.Spec PyProof.Rows L2 Mx

section
variable {G : GL} {F : Cf} {N : List Str} {sc : List (Str × NameKind)} {W : WX} {X : Cx}
/-- the values of a row, then the call -/
theorem with_KP {pos : Pos} {f : Value} {first : List Value} {Q : Value → Shared → Prop} {pins : List (Addr × Obj)} {σ : L2.St} {H : Hp} {s : Shared} {R1 : List V → Hp → Prop} (I : L2.Inv X pins σ H s) (hk : PySem.W.keepIn X.K f = true) (es : E) (hes : isArgs es = true)
    (ha : PA X es.srcs (tA G W (evs F es))) (w : tA G W (evs F es) σ H R1) (k : ∀ us vs s1 H1, L2.Inv X pins σ H1 s1 → Vals vs us → R1 vs H1 → wpAny (model X.prog X.w) X.A (PySem.call f (first ++ us)) Q X.xe s1) :
    wpAny (model X.prog X.w) X.A (callWith pos f first (backTo pos (starEach es.srcs X.env)) (backToKw pos (keywordEach [] X.env))) Q X.xe s := by
  cases es with
  | anil =>
    obtain ⟨ρ, ds, h, sr, hr, p⟩ := w
    exact PySem.W.callWith_K0 I.kIn hk (k [] [] s H I .nil (Pst.here p hr _ RL.nil))
  | acons a r => exact PySem.W.callWith_K (h₀ := X.base) I.ok.mod.kin hk (thn (ha.run pos pins s σ H _ I w) fun us s1 ⟨vs, H1, I1, r, q⟩ => ⟨I1.kIn, k us vs s1 H1 I1 r q⟩) (src_star a _ _) (srcs_star _ _ r)
  | _ => cases hes
theorem pcall (g : GX G F N sc W X) {f : Nat} {x : Str} {px p : Pos} {es : E} (h1 : G.fN f = some x) (h2 : isGlo sc x = true) (h3 : plainN x = true) (hes : isArgs es = true) (ha : PA X es.srcs (tA G W (evs F es))) : PE X (E.call f x px es p).src (tE G W (ev F (.call f x px es p))) := by
  obtain ⟨hm, hk⟩ := g.gf.fn f x h1
  rw [← g.mg] at hm
  rw [← g.K] at hk
  refine ⟨fun pins s σ H Q I w => wpAny_Call_Name_kw (ld_glob I (g.sco.gl h2) hm ?_ (plainN1 h3))⟩
  refine with_KP (R1 := fun vs H1 => ∃ ρ h ds, HR G ρ h H1 ∧ RL G.K ρ H1 ds vs ∧ Pst G (wAt W σ) ρ H1 (F.cf f ds h) (pV G Q)) I hk es hes ha (row w fun ρ ds xs h' H' vs sr hr rl q => ⟨ρ, h', xs, hr, rl, q⟩) ?_
  intro us vs s1 H1 I1 r ⟨ρ, h, ds, hr, rl, q⟩
  exact gcall g I1 r hr rl q
theorem pmake (g : GX G F N sc W X) {c : Nat} {x : Str} {px p : Pos} {es : E} (h0 : (G.P.ini c).isSome = true) (h1 : G.cN c = some x) (h2 : isGlo sc x = true) (h3 : plainN x = true) (hes : isArgs es = true) (ha : PA X es.srcs (tA G W (evs F es))) : PE X (E.make c x px es p).src (tE G W (ev F (.make c x px es p))) := by
  obtain ⟨f, hi2⟩ := Option.isSome_iff_exists.mp h0
  have hi : F.ini c = some f := by rw [g.ini]; exact hi2
  have hm := g.gf.cls c x h1
  rw [← g.mg] at hm
  have hk := (g.gf.ins c f hi2).2.kp
  rw [← g.K] at hk
  refine ⟨fun pins s σ H Q I w => wpAny_Call_Name_kw (ld_glob I (g.sco.gl h2) hm ?_ (plainN1 h3))⟩
  refine with_KP (R1 := fun vs H1 => ∃ ρ h ds, HR G ρ h H1 ∧ RL G.K ρ H1 ds vs ∧ Pst G (wAt W σ) ρ H1 ((F.mf f (.ref h.length :: ds) (h ++ [.ins c []])).bnd fun d h2 => match d with
      | .non => .ok (.ref h.length) h2
      | _ => .no) (pV G Q)) I hk es hes ha (row w fun ρ ds xs h' H' vs sr hr rl q => ⟨ρ, h', xs, hr, rl, ?_⟩) ?_
  · rw [hi] at q
    exact q
  · intro us vs s1 H1 I1 r ⟨ρ, h, ds, hr, rl, q⟩
    exact gmake g I1 r hr rl hi2 q
theorem pmth (g : GX G F N sc W X) {o es : E} {m : Nat} {x : Str} {ap p : Pos} (h1 : G.nms[m]? = some x) (h2 : noSuper o = true) (h3 : (ap.endLine == p.line) = true) (h4 : alen es < 30) (hes : isArgs es = true) (ho : PE X o.src (tE G W (ev F o))) (ha : PA X es.srcs (tA G W (evs F es))) : PE X (E.mth o m x ap es p).src (tE G W (ev F (.mth o m x ap es p))) := by
  refine ⟨fun pins s σ H Q I w => ?_⟩
  refine PySem.W.methodCall_KW (pl := plainOf o.src X.env) (thn (ho.run pins s σ H _ I (oneS (f := fun s x h1 => match x with
    | .ref l => match h1[l]? with
      | some (.ins c _) => match F.md c m with
        | some f => (evs F es s h1).bnd fun xs h2 => F.cf f (.ref l :: xs) h2
        | none => .no
      | _ => .no
    | _ => .no) (R1 := fun v H1 => ∃ a c f dx gs l, v = .ref a ∧ H1 a = some (.ins (G.cA c) dx gs) ∧ gs.lookup x = none ∧ G.P.md c m = some f ∧ ∃ ρ ds h, SR G.K ρ H1 ds σ ∧ HR G ρ h H1 ∧ ρ[l]? = some a ∧ Pst G (wAt W σ) ρ H1 ((evs F es ds h).bnd fun xs h2 => F.cf f (.ref l :: xs) h2) (pV G Q)) w ?_)) ?_) (mtree X.env h2 h3 h4)
  · intro ρ ds d h' H' v sr hr r q
    cases d with
    | ref l =>
      obtain ⟨a, rfl, ea⟩ := r.ref
      have q : Pst G (wAt W σ) ρ H' (match h'[l]? with
      | some (.ins c _) => match F.md c m with
        | some f => (evs F es ds h').bnd fun xs h2 => F.cf f (.ref l :: xs) h2
        | none => .no
      | _ => .no) (pV G Q) := q
      split at q
      · rename_i c fs hx
        split at q
        · rename_i f hf
          rw [g.md] at hf
          obtain ⟨dx, gs, h3, h4, h5, h6⟩ := hr.ins ea hx
          refine ⟨a, c, f, dx, gs, l, rfl, h3, h4.none g.gf.nnd h1 ?_, hf, ρ, ds, h', sr, hr, ea, q⟩
          cases e : fget fs m with
          | none => rfl
          | some d =>
            have := h6 _ (fget_mem e)
            rw [show ((m, d) : Nat × D).1 = m from rfl, hf] at this
            cases this
        · exact q.elim
      · exact q.elim
    | _ => exact q.elim
  · intro u s1 ⟨v, H1, I1, rv, a, c, f, dx, gs, l, ev, ea, lk, hf, ρ, ds, h, sr, hr, el, q⟩
    subst ev
    obtain rfl : u = Value.ref a := rv
    obtain ⟨hmt, hc⟩ := g.gf.mth c m f x hf h1
    rw [← g.K] at hmt hc
    refine getmeth_ok I1 ea hc hmt lk ?_
    refine with_KP (first := [.ref a]) (R1 := fun vs H1 => ∃ ρ h ds, HR G ρ h H1 ∧ RL G.K ρ H1 ds (.ref a :: vs) ∧ Pst G (wAt W σ) ρ H1 (F.cf f ds h) (pV G Q)) I1 hmt.kp es hes ha ⟨ρ, ds, h, sr, hr, q.bnd.mono fun xs ρ2 h2 H2 pre kp hr2 q2 vs rl => ⟨ρ2, h2, .ref l :: xs, hr2, RL.cons (by unfold R; exact ⟨a, rfl, pre_get pre el⟩) rl, q2⟩⟩ ?_
    · intro us vs s2 H2 I2 r ⟨ρ, h, ds, hr, rl, q⟩
      exact gcall g I2 (vs := .ref a :: vs) (us := .ref a :: us) (.cons (show RelV (.ref a) (.ref a) from rfl) r) hr rl q
/-! ### keywords -/
def isKs : E → Bool
  | .knil => true
  | .kcons _ _ _ r => isKs r
  | _ => false
def knm : E → List Str
  | .kcons x _ _ r => x :: knm r
  | _ => []
theorem pk_knil : PK X E.knil.srck (tA G W (evs F .knil)) := ⟨fun pos pins s σ H Q I ⟨ρ, ds, h, sr, hr, p⟩ => pk_nil.run pos pins s σ H Q I (Pst.here p hr _ RL.nil)⟩
theorem pk_kcons {x : Str} {e : E} {p : Pos} {r : E} (ha : PE X e.src (tE G W (ev F e))) (hr : PK X r.srck (tA G W (evs F r))) : PK X (E.kcons x e p r).srck (tA G W (evs F (.kcons x e p r))) :=
  ⟨fun pos pins s σ H Q I w => (pk_cons ha hr).run pos pins s σ H Q I (rowC w)⟩
theorem kw_names (pos : Pos) (env : Env) : ∀ ks : E, (backToKw pos (keywordEach ks.srck env)).all (·.1.isSome) = true ∧ (backToKw pos (keywordEach ks.srck env)).filterMap (·.1) = knm ks ∧ (backToKw pos (keywordEach ks.srck env)).any (·.1.isNone) = false := by
  intro ks
  induction ks with
  | kcons x e p r _ ih =>
    obtain ⟨h1, h2, h3⟩ := ih
    refine ⟨?_, ?_, ?_⟩
    · show (true && (backToKw pos (keywordEach r.srck env)).all (·.1.isSome)) = true
      rw [h1]; rfl
    · show x :: (backToKw pos (keywordEach r.srck env)).filterMap (·.1) = x :: knm r
      rw [h2]
    · show (false || (backToKw pos (keywordEach r.srck env)).any (·.1.isNone)) = false
      rw [h3]; rfl
  | _ => exact ⟨rfl, rfl, rfl⟩
theorem bnd_ok_inv {α β : Type} {r : Rs α} {f : α → AH → Rs β} {b : β} {h : AH} (e : r.bnd f = .ok b h) : ∃ a h1, r = .ok a h1 ∧ f a h1 = .ok b h := by
  cases r with
  | ok a h1 => exact ⟨a, h1, rfl, e⟩
  | ex _ _ _ => cases e
  | no => cases e
theorem evs_len : ∀ (es : E) {s : Sl} {h : AH} {xs : List D} {h' : AH}, evs F es s h = .ok xs h' → (isArgs es = true → xs.length = alen es) ∧ (isKs es = true → xs.length = (knm es).length) := by
  intro es
  induction es with
  | anil => intro s h xs h' e; cases e; exact ⟨fun _ => rfl, fun z => by cases z⟩
  | acons a r _ ih =>
    intro s h xs h' e
    obtain ⟨x, h1, e1, e2⟩ := bnd_ok_inv (show ((ev F a s h).bnd fun x h1 => (evs F r s h1).bnd fun xs h2 => .ok (x :: xs) h2) = .ok xs h' from e)
    obtain ⟨ys, h2, e3, e4⟩ := bnd_ok_inv e2
    cases e4
    exact ⟨fun z => by rw [List.length_cons, (ih e3).1 z]; rfl, fun z => by cases z⟩
  | knil => intro s h xs h' e; cases e; exact ⟨fun z => (by cases z), fun _ => rfl⟩
  | kcons n a p r _ ih =>
    intro s h xs h' e
    obtain ⟨x, h1, e1, e2⟩ := bnd_ok_inv (show ((ev F a s h).bnd fun x h1 => (evs F r s h1).bnd fun xs h2 => .ok (x :: xs) h2) = .ok xs h' from e)
    obtain ⟨ys, h2, e3, e4⟩ := bnd_ok_inv e2
    cases e4
    exact ⟨fun z => (by cases z), fun z => by rw [List.length_cons, (ih e3).2 z]; rfl⟩
  | _ => intro s h xs h' e; cases e
theorem gcallk (g : GX G F N sc W X) {pins : List (Addr × Obj)} {σ : L2.St} {H : Hp} {s : Shared} {Q : VK} {us ws : List Value} {vs zs : List V} {f m : Nat} {ks : List Str} {ρ : Rho} {h : AH} {ds es : List D} (hk : (f, m, ks) ∈ G.kws) (I : L2.Inv X pins σ H s) (rv : Vals vs us) (rz : Vals zs ws) (hr : HR G ρ h H) (rl : RL G.K ρ H ds vs) (rl2 : RL G.K ρ H es zs)
    (l1 : ds.length = m) (l2 : es.length = ks.length) (p : Pst G (wAt W σ) ρ H (F.cf f (ds ++ es) h) (pV G Q)) : wpAny (model X.prog X.w) X.A (PySem.call (.ref (G.FA f)) us (ks.zip ws)) (EP X pins σ Q) X.xe s := by
  obtain ⟨k, hkr, hf⟩ := g.cf
  have hne : ¬ (G.P.fn f = none ∨ (ds ++ es).length ≠ (G.PS f).length) := fun z => by
    rw [(hf f).2 _ h z] at p
    exact p
  have h2 : (ds ++ es).length = (G.PS f).length := Decidable.of_not_not fun z => hne (.inr z)
  have r2 : Vals (vs ++ zs) (us ++ ws) := rv.append rz
  have rl3 := rl.app rl2
  have b := g.gf.kb f m ks hk s us ws (by rw [← g.K]; exact I.kIn) (by rw [← rv.length, rl.length, l1]) (by rw [← rz.length, rl2.length, l2])
  refine wpAny_call (codeAny_mono ((hf f).1.run X.A X.stack s H ⟨us, ks.zip ws⟩ (us ++ ws) (vs ++ zs) Q (wAt W σ) hkr I.env0 b r2 ⟨by rw [rl3.length]; exact h2, G.fr, ρ, ds ++ es, h, hr, rl3, p⟩) fun r s' hq => ?_)
  cases r with
  | error e => exact passAt g.tk σ pins H s e s' I hq
  | ok fl =>
    cases fl with
    | ret u => exact I.after hq
    | next => exact False.elim hq
    | brk => exact False.elim hq
    | cont => exact False.elim hq
theorem pcallk (g : GX G F N sc W X) {f : Nat} {x : Str} {px p : Pos} {es ks : E} (h0 : (f, alen es, knm ks) ∈ G.kws) (h1 : G.fN f = some x) (h2 : isGlo sc x = true) (h3 : plainN x = true) (hes : isArgs es = true) (hks : isKs ks = true) (ha : PA X es.srcs (tA G W (evs F es))) (hk : PK X ks.srck (tA G W (evs F ks))) : PE X (E.callk f x px es ks p).src (tE G W (ev F (.callk f x px es ks p))) := by
  obtain ⟨hm, hkp⟩ := g.gf.fn f x h1
  rw [← g.mg] at hm
  rw [← g.K] at hkp
  obtain ⟨k1, k2, k3⟩ := kw_names p X.env ks
  refine ⟨fun pins s σ H Q I w => wpAny_Call_Name_kw (ld_glob I (g.sco.gl h2) hm ?_ (plainN1 h3))⟩
  obtain ⟨ρ, ds, h, sr, hr, q⟩ := w
  have q : Pst G (wAt W σ) ρ H ((evs F es ds h).bnd fun xs h1 => (evs F ks ds h1).bnd fun ys h2 => F.cf f (xs ++ ys) h2) (pV G Q) := q
  -- behind the positional ones
  have later : ∀ {us : List Value} {vs : List V} {s1 : Shared} {H1 : Hp} {ρ1 : Rho} {h1 : AH} {xs : List D}, L2.Inv X pins σ H1 s1 → Vals vs us → SR G.K ρ1 H1 ds σ → HR G ρ1 h1 H1 → RL G.K ρ1 H1 xs vs → xs.length = alen es → Pst G (wAt W σ) ρ1 H1 ((evs F ks ds h1).bnd fun ys h2 => F.cf f (xs ++ ys) h2) (pV G Q) →
      wpAny (model X.prog X.w) X.A (evalAll ((backToKw p (keywordEach ks.srck X.env)).map (·.2))) (fun wv s₂ => X.K.In s₂.heap ∧ wpAny (model X.prog X.w) X.A (PySem.call (.ref (G.FA f)) us (((backToKw p (keywordEach ks.srck X.env)).filterMap (·.1)).zip wv)) (EP X pins σ Q) X.xe s₂) X.xe s1 := by
    intro us vs s1 H1 ρ1 h1 xs I1 rv sr1 hr1 rl hx q1
    have key : tA G W (evs F ks) σ H1 fun zs H2 => ∃ ρ2 h2 ys, HR G ρ2 h2 H2 ∧ RL G.K ρ2 H2 xs vs ∧ RL G.K ρ2 H2 ys zs ∧ ys.length = (knm ks).length ∧ Pst G (wAt W σ) ρ2 H2 (F.cf f (xs ++ ys) h2) (pV G Q) := by
      refine ⟨ρ1, ds, h1, sr1, hr1, ?_⟩
      have q2 := q1.bnd
      revert q2
      cases e : evs F ks ds h1 with
      | ok ys h2 =>
        intro q2 ρ2 H2 p2 kk2 hr2 zs rz
        exact ⟨ρ2, h2, ys, hr2, rl.mono p2 kk2, rz, (evs_len ks e).2 hks, q2 ρ2 H2 p2 kk2 hr2⟩
      | ex c fs h2 => exact fun q2 => q2
      | no => exact fun q2 => q2
    refine thn (hk.run p pins s1 σ H1 _ I1 key) fun wv s2 ⟨zs, H2, I2, rz, ρ2, h2, ys, hr2, rl2, rl3, l3, q2⟩ => ⟨I2.kIn, ?_⟩
    rw [k2]
    exact gcallk g h0 I2 rv rz hr2 rl2 rl3 hx l3 q2
  cases es with
  | anil => exact PySem.W.callWith_KW0 (h₀ := X.base) I.ok.mod.kin hkp k1 (later (us := []) (vs := []) (xs := []) I .nil sr hr RL.nil rfl q) (by rw [k3]; rfl)
  | acons a r =>
    refine PySem.W.callWith_KW (h₀ := X.base) I.ok.mod.kin hkp k1 ?_ (by have := srcs_star p X.env (.acons a r); rw [k3]; show ((backTo p (starEach (E.acons a r).srcs X.env)).any (·.1) || false) = false; rw [this]; rfl) (src_star a _ _)
    have key : tA G W (evs F (.acons a r)) σ H fun vs H1 => ∃ ρ1 h1 xs, SR G.K ρ1 H1 ds σ ∧ HR G ρ1 h1 H1 ∧ RL G.K ρ1 H1 xs vs ∧ xs.length = alen (.acons a r) ∧ Pst G (wAt W σ) ρ1 H1 ((evs F ks ds h1).bnd fun ys h2 => F.cf f (xs ++ ys) h2) (pV G Q) := by
      refine ⟨ρ, ds, h, sr, hr, ?_⟩
      have q2 := q.bnd
      revert q2
      cases e : evs F (.acons a r) ds h with
      | ok xs h1 =>
        intro q2 ρ1 H1 p1 kk1 hr1 vs rl
        exact ⟨ρ1, h1, xs, sr.mono p1 kk1, hr1, rl, (evs_len _ e).1 hes, q2 ρ1 H1 p1 kk1 hr1⟩
      | ex c fs h2 => exact fun q2 => q2
      | no => exact fun q2 => q2
    exact thn (ha.run p pins s σ H _ I key) fun us s1 ⟨vs, H1, I1, rv, ρ1, h1, xs, sr1, hr1, rl, hx, q1⟩ => later I1 rv sr1 hr1 rl hx q1
  | _ => cases hes
end
end Ms

/-! isinstance, join, extend, append, pop; rows of lists. -/
namespace Ms
open PySem PySem.Spec PyProof.Rows L2 Mx

section
variable {G : GL} {F : Cf} {N : List Str} {sc : List (Str × NameKind)} {W : WX} {X : Cx}
/-! ### isinstance -/
def Ty.t : Ty → String
  | .int => "int" | .bool => "bool" | .str => "str" | .tup => "tuple" | .lst => "list"
theorem isi_ty (g : X.K = G.K) {ρ : Rho} {h : AH} {H : Hp} {d : D} {v : V} {t : Ty} {b : Bool} (hr : HR G ρ h H) (r : R G.K ρ H d v) (e : isi t d h = some b) : ∃ n, TyX X.K H v (.type n) ∧ kitB n (Ty.t t) = some b := by
  cases d with
  | non => rw [r.non]; cases e; exact ⟨_, .base .non, by cases t <;> decide +kernel⟩
  | bl k => rw [r.bl]; cases e; exact ⟨_, .base (.bl k), by cases t <;> decide +kernel⟩
  | int i => rw [r.int]; cases e; exact ⟨_, .base (.int i), by cases t <;> decide +kernel⟩
  | str z => rw [r.str]; cases e; exact ⟨_, .base (.str _), by cases t <;> decide +kernel⟩
  | tup xs =>
    obtain ⟨a, vs, rfl, z, rl⟩ := r.tup
    cases e
    refine ⟨"tuple", ?_, by cases t <;> decide +kernel⟩
    rcases z with z | ⟨o, its, n, h1, h2, _⟩
    · exact .base (.tup z)
    · exact .kTuple (by rw [g]; exact h1) h2
  | ref l =>
    obtain ⟨a, rfl, ea⟩ := r.ref
    have e : (match h[l]? with
      | some (.lst _) => some (t == .lst)
      | some (.frz _) => some (t == .lst)
      | _ => none) = some b := e
    split at e
    · rename_i xs hx
      cases e
      obtain ⟨vs, h1, h2⟩ := hr.lst ea hx
      exact ⟨"list", .base (.lst h1), by cases t <;> decide +kernel⟩
    · rename_i xs hx
      cases e
      obtain ⟨vs, h1, h2⟩ := hr.frz ea hx
      refine ⟨"list", ?_, by cases t <;> decide +kernel⟩
      rcases h1 with ⟨o, z⟩ | ⟨o, its, n, z1, z2, _⟩
      · exact .base (.frz z)
      · exact .kList (by rw [g]; exact z1) z2
    · cases e
theorem pisi (g : GX G F N sc W X) {e : E} {t : Ty} {px pt p : Pos} (h1 : isGlo sc "isinstance" = true) (h2 : isGlo sc t.nm = true) (ha : PE X e.src (tE G W (ev F e))) : PE X (E.isi e t px pt p).src (tE G W (ev F (.isi e t px pt p))) := by
  have hb : PE X (.Name t.nm pt) (tC (.ty (Ty.t t))) := by
    have hm : X.mg t.nm = none := gblt g (by cases t <;> decide)
    cases t with
    | int => exact pe_bltn (u := .type "int") (g.sco.gl h2) hm (by decide +kernel) rfl
    | bool => exact pe_bltn (u := .type "bool") (g.sco.gl h2) hm (by decide +kernel) rfl
    | str => exact pe_bltn (u := .type "str") (g.sco.gl h2) hm (by decide +kernel) rfl
    | tup => exact pe_bltn (u := .type "tuple") (g.sco.gl h2) hm (by decide +kernel) rfl
    | lst => exact pe_bltn (u := .type "list") (g.sco.gl h2) hm (by decide +kernel) rfl
  refine PE.imp (pe_callB call_isi (g.sco.gl h1) (gblt g (by decide)) (by decide +kernel) (pa_cons ha (pa_cons hb pa_nil rfl) (src_star e _ _)) (by decide) (by decide) (src_star e _ _) rfl) fun σ H Q w => one w fun ρ ds x h' H' v sr hr r q => ?_
  obtain ⟨d, e2, q⟩ := Pst.opt q
  cases e3 : isi t x h' with
  | none => rw [e3] at e2; cases e2
  | some b =>
    rw [e3] at e2
    cases e2
    obtain ⟨n, h1, h2⟩ := isi_ty g.K hr r e3
    exact ⟨v, .ty (Ty.t t), .type n, .type (Ty.t t), b, rfl, .ty _, h1, kit_ty h2, hereV hr q (R.ofBl _)⟩
/-! ### rows that stand already -/
theorem pLval (g : X.K = G.K) {e : E} (ha : PE X e.src (tE G W (ev F e))) : PE X (E.lval e).src (tL G W false (evl F (.lval e))) :=
  PE.imp ha fun σ H Q w => one w fun ρ ds x h' H' v sr hr r q => by
    obtain ⟨xs, e2, q2⟩ := Pst.opt q
    cases x with
    | tup ys =>
      cases e2
      obtain ⟨a, vs, rfl, t, l⟩ := r.tup
      exact q2.here hr a vs l (.inr t)
    | ref l =>
      obtain ⟨a, rfl, ea⟩ := r.ref
      obtain ⟨vs, h1, h2⟩ := hr.seq ea e2
      exact q2.here hr a vs h2 (.inl h1)
    | _ => cases e2
theorem pLref (g : X.K = G.K) {e : E} (ha : PE X e.src (tE G W (ev F e))) : PE X (E.lref e).src (tL G W false (evl F (.lref e))) :=
  PE.imp ha fun σ H Q w => one w fun ρ ds x h' H' v sr hr r q => by
    obtain ⟨xs, e2, q2⟩ := Pst.opt q
    cases x with
    | ref l =>
      obtain ⟨a, rfl, ea⟩ := r.ref
      obtain ⟨vs, h1, h2⟩ := hr.seq ea e2
      exact q2.here hr a vs h2 (.inl h1)
    | _ => cases e2
/-! ### list(x) -/
theorem vals_signs {x : List Nat} {its : Array Value} (h : ItemsOf (SignAt (sS x)) its (sS x).cps.size) : Vals ((x.map fun c => V.str (sS [c]))) its.toList := by
  refine vals_of_idx _ _ (by rw [List.length_map, Array.length_toList, h.1]; simp [sS]) fun j u hj => ?_
  obtain ⟨c, t, hc, rfl⟩ := h.2 j u (by rw [← Array.getElem?_toList]; exact hj)
  refine ⟨.str (sS [c]), ?_, ⟨t, rfl⟩⟩
  rw [List.getElem?_map]
  have : x[j]? = some c := by simpa [sS] using hc
  rw [this]
  rfl
theorem call_listS : CallR X (.type "list") (fun xs H Q => X.calm = true ∧ ∃ z : List Nat, xs = [.str (sS z)] ∧ z.length ≤ sizeLine ∧ ∀ l, H l = none → Q (.ref l) (upd H l (.lst (z.map fun c => V.str (sS [c]))))) := by
  intro pins s σ H xs us Q I r ⟨hc, z, ex, hz, q⟩
  subst ex
  cases r with
  | cons r1 rr =>
    cases rr
    obtain ⟨t, rfl⟩ := r1
    refine call_list_str (I.ok.hd hc) (sS z) t (fun h' tk acc c' hk e hi => ?_) (by simpa [sS] using hz)
    refine ⟨.ref s.heap.objs.size, upd H s.heap.objs.size (.lst (z.map fun c => V.str (sS [c]))), I.laid hk (Nat.le_refl _) ⟨by rw [List.length_map]; exact hz, acc.toList, c', vals_signs hi, by rw [Array.toArray_toList]; exact e⟩, rfl, q _ (I.hok.fresh (Nat.le_refl _))⟩
theorem rl_signs {K : PySem.W.Frag} {ρ : Rho} {H : Hp} (z : List Nat) : RL K ρ H (chars z) (z.map fun c => V.str (sS [c])) := RL.map (fun c => R.ofStr [c]) z
theorem llistN (g : GX G F N sc W X) {e : E} {px p : Pos} (h1 : isGlo sc "list" = true) (ha : PE X e.src (tE G W (ev F e))) : PE X (E.llist e px p).src (tN G W (evl F (.llist e px p))) :=
  PE.imp (pe_callTy (call_list_of.or call_listS) (g.sco.gl h1) (gblt g (by decide)) (by decide +kernel) (pa_cons ha pa_nil (src_star e [] _)) (by decide) (by decide) (src_star e [] _) rfl) fun σ H Q w => one w fun ρ ds x h' H' v sr hr r q => by
    obtain ⟨xs, e2, q2⟩ := Pst.opt q
    cases x with
    | tup ys =>
      cases e2
      obtain ⟨a, vs, rfl, t, l⟩ := r.tup
      exact .inl ⟨a, vs, rfl, .inr (by rw [g.K]; exact t.sq), fun p hp => q2.here hr vs p l hp⟩
    | str z =>
      have e2 : (if z.length ≤ SZ then some (chars z) else none) = some xs := e2
      split at e2
      · rename_i hz
        cases e2
        rw [r.str]
        exact .inr ⟨g.calm, z, rfl, by rw [← SZ_eq]; exact hz, fun p hp => q2.here hr _ p (rl_signs z) hp⟩
      · cases e2
    | ref l =>
      obtain ⟨a, rfl, ea⟩ := r.ref
      have e2 : (match h'[l]? with
        | some (.lst xs) => some xs
        | some (.dic kvs) => some (kvs.map (·.1))
        | _ => none) = some xs := e2
      split at e2
      · rename_i ys hy
        cases e2
        obtain ⟨vs, h1, h2⟩ := hr.lst ea hy
        exact .inl ⟨a, vs, rfl, .inl (.of h1), fun p hp => q2.here hr vs p h2 hp⟩
      · rename_i ys hy
        exact (hr.dic ea hy).elim
      · cases e2
    | _ => cases e2
/-! ### join, extend -/
theorem joinS (z : List Nat) : ∀ ys : List (List Nat), Txt.join (sS z) (ys.map sS) = sS (joinT z ys)
  | [] => rfl
  | [x] => rfl
  | x :: y :: r => by
    have e : Txt.join (sS z) ((x :: y :: r).map sS) = sS x ++ sS z ++ Txt.join (sS z) ((y :: r).map sS) := by
      rw [show ∀ (y : Str) (p : List Str), Txt.join y p = Str.join y p from fun y p => PySem.StrLaws.glued_eq_join y p, show ∀ (y : Str) (p : List Str), Txt.join y p = Str.join y p from fun y p => PySem.StrLaws.glued_eq_join y p]
      rfl
    rw [e, joinS z (y :: r), sS_app, sS_app]
    rfl
theorem lens_eq : ∀ ys : List (List Nat), ((ys.map sS).map (·.length)).sum = lens ys
  | [] => rfl
  | x :: r => by
    rw [List.map_cons, List.map_cons, List.sum_cons, lens_eq r, sS_len]
    rfl
theorem pjoin (g : X.K = G.K) {o l : E} {tr : Bool} {ap p : Pos} (h2 : noSuper o = true) (h3 : (ap.endLine == p.line) = true) (ho : PE X o.src (tE G W (ev F o))) (hs : starEach [l.src] X.env = [(false, eval l.src X.env)]) (hl : PE X l.src (tL G W tr (evl F l))) : PE X (E.join o l ap p).src (tE G W (ev F (.join o l ap p))) :=
  PE.imp (pe_join ho hl hs (src_base h2 "join" X.env) h3) fun σ H Q w => by
    obtain ⟨ρ, ds, h0, sr, hr, q⟩ := w
    have q : Pst G (wAt W σ) ρ H ((ev F o ds h0).bnd fun x h1 => if strQ x = true then (evl F l ds h1).bnd fun xs h2 => joinop x xs h2 else .no) (pV G Q) := q
    refine ⟨ρ, ds, h0, sr, hr, q.bnd.mono fun x ρ1 h1 H1 p1 k1 hr1 q1 v r => ?_⟩
    obtain ⟨hx, q1⟩ := Pst.ite q1
    cases x with
    | str z =>
      rw [r.str]
      refine ⟨⟨_, rfl⟩, ρ1, ds, h1, sr.mono p1 k1, hr1, q1.bnd.mono fun xs ρ2 h2 H2 p2 k2 hr2 q2 a vs rl at' => ?_⟩
      have q2 : Pst G (wAt W σ) ρ2 H2 (match strsD xs with
        | some ys => if lens ys + z.length * ys.length ≤ SZ then .ok (.str (joinT z ys)) h2 else .no
        | none => .no) (pV G Q) := q2
      split at q2
      · rename_i ys hy
        obtain ⟨hz, q2⟩ := Pst.ite q2
        have ev := strs_ok hy rl
        subst ev
        refine ⟨sS z, a, ys.map sS, rfl, rfl, by rw [g]; exact at'.sq, ?_, ?_⟩
        · rw [lens_eq, List.length_map, sS_len, Nat.mul_comm]
          exact hz
        · rw [joinS]
          exact hereV hr2 q2 (R.ofStr _)
      · exact q2.elim
    | _ => cases hx
theorem lst_here {ρ : Rho} {h : AH} {H : Hp} {x : D} {v : V} (hr : HR G ρ h H) (r : R G.K ρ H x v) (e : lstQ h x = true) : ∃ l a xs vs, x = .ref l ∧ v = .ref a ∧ ρ[l]? = some a ∧ h[l]? = some (.lst xs) ∧ H a = some (.lst vs) ∧ RL G.K ρ H xs vs := by
  cases x with
  | ref l =>
    obtain ⟨a, rfl, ea⟩ := r.ref
    have e : (match h[l]? with
      | some (.lst _) => true
      | _ => false) = true := e
    split at e
    · rename_i xs hx
      obtain ⟨vs, h1, h2⟩ := hr.lst ea hx
      exact ⟨l, a, xs, vs, rfl, rfl, ea, hx, h1, h2⟩
    · cases e
  | _ => cases e
/-- a list is changed -/
theorem lst_put {Q : VK} {Wk : XK} {ρ : Rho} {h : AH} {H : Hp} {l : Nat} {a : Addr} {xs ys : List D} {vs ws : List V} {d : D} {v : V} (hr : HR G ρ h H) (ea : ρ[l]? = some a) (hx : h[l]? = some (.lst xs)) (h1 : H a = some (.lst vs)) (rl : RL G.K ρ H ys ws) (rv : R G.K ρ H d v)
    (q : Pst G Wk ρ H (.ok d (put h l (.lst ys))) (pV G Q)) : Q v (upd H a (.lst ws)) := by
  have w : Wr (H a) := .inl ⟨vs, h1⟩
  have k : Kp H (upd H a (.lst ws)) := Kp.upd w.notup
  exact q ρ _ (List.prefix_refl _) k (hr.put ea hx w rfl rfl ⟨ws, upd_same, rl.mono (List.prefix_refl _) k⟩) v (rv.mono (List.prefix_refl _) k)
theorem few1 {cpos : Pos} {env : Env} (l : Expr) (hs : starEach [l] env = [(false, eval l env)]) : ((backTo cpos (starEach [l] env)).all (fun x => !x.1) && (backToKw cpos (keywordEach [] env)).all (fun x => x.1.isSome)
      && decide ([l].length + ([] : List Keyword).length + (if ([] : List Keyword).isEmpty then 0 else 1) < 30)) = true := by rw [hs]; rfl
theorem pext (g : X.K = G.K) {o l : E} {ap p : Pos} (h2 : noSuper o = true) (h3 : (ap.endLine == p.line) = true) (ho : PE X o.src (tE G W (ev F o))) (hs : starEach [l.src] X.env = [(false, eval l.src X.env)]) (hl : PE X l.src (tL G W true (evl F l))) : PE X (E.ext o l ap p).src (tE G W (ev F (.ext o l ap p))) :=
  PE.imp (pe_bm PySem.F.plainAttrs_list PySem.F.slot_list_extend PySem.F.type_list_extend mt_extend ho (pa_cons hl pa_nil hs) (src_base h2 "extend" X.env) (few1 _ hs) h3 hs rfl) fun σ H Q w => by
    obtain ⟨ρ, ds, h0, sr, hr, q⟩ := w
    have q : Pst G (wAt W σ) ρ H ((ev F o ds h0).bnd fun x h1 => if lstQ h1 x = true then (evl F l ds h1).bnd fun xs h2 => extop x xs h2 else .no) (pV G Q) := q
    refine ⟨ρ, ds, h0, sr, hr, q.bnd.mono fun x ρ1 h1 H1 p1 k1 hr1 q1 v r => ?_⟩
    obtain ⟨hx, q1⟩ := Pst.ite q1
    obtain ⟨l', a, xs, vs, rfl, rfl, ea, hx, hH, rl⟩ := lst_here hr1 r hx
    refine ⟨.inl ⟨rfl, vs, .of hH⟩, ρ1, ds, h1, sr.mono p1 k1, hr1, q1.bnd.mono fun ys ρ2 h2 H2 p2 k2 hr2 q2 b ws rl2 at' => ?_⟩
    have ea2 := pre_get p2 ea
    have q2 : Pst G (wAt W σ) ρ2 H2 (match h2[l']? with
      | some (.lst xs) => if xs.length + ys.length ≤ SZ then .ok .non (put h2 l' (.lst (xs ++ ys))) else .no
      | _ => .no) (pV G Q) := q2
    split at q2
    · rename_i xs2 hx2
      obtain ⟨hz, q2⟩ := Pst.ite q2
      obtain ⟨vs2, e1, e2⟩ := hr2.lst ea2 hx2
      exact ⟨a, b, vs2, ws, rfl, rfl, e1, at', by rw [e2.length, rl2.length, ← SZ_eq]; exact hz, lst_put hr2 ea2 hx2 e1 (e2.app rl2) R.ofNon q2⟩
    · exact q2.elim
theorem last_get {α : Type} : ∀ l : List α, l[l.length - 1]? = l.getLast?
  | [] => rfl
  | a :: r => by rw [List.getLast?_eq_getElem?]
/-- the methods that are served -/
def bmOk (m : BM) (n : Nat) : Bool := match m with
  | .append => n == 1
  | .pop0 => n == 0
  | _ => false
theorem pbm (g : X.K = G.K) {m : BM} {o es : E} {ap p : Pos} (h0 : bmOk m (alen es) = true) (h2 : noSuper o = true) (h3 : (ap.endLine == p.line) = true) (hes : isArgs es = true) (ho : PE X o.src (tE G W (ev F o))) (ha : PA X es.srcs (tA G W (evs F es))) : PE X (E.bm m o es ap p).src (tE G W (ev F (.bm m o es ap p))) := by
  cases m with
  | append =>
    cases es with
    | acons a r =>
      have h0 : (alen r + 1 == 1) = true := h0
      cases r with
      | anil =>
        refine PE.imp (pe_bm PySem.F.plainAttrs_list PySem.F.slot_list_append PySem.F.type_list_append mt_append ho ha (src_base h2 "append" X.env) (few1 _ (src_star a [] _)) h3 (src_star a [] _) rfl) fun σ H Q w => ?_
        obtain ⟨ρ, ds, h0, sr, hr, q⟩ := w
        have q : Pst G (wAt W σ) ρ H ((ev F o ds h0).bnd fun x h1 => if lstQ h1 x = true then (evs F (.acons a .anil) ds h1).bnd fun xs h2 => bmop .append x xs h2 else .no) (pV G Q) := q
        refine ⟨ρ, ds, h0, sr, hr, q.bnd.mono fun x ρ1 h1 H1 p1 k1 hr1 q1 v r => ?_⟩
        obtain ⟨hx, q1⟩ := Pst.ite q1
        obtain ⟨l', a', xs, vs, rfl, rfl, ea, hx, hH, rl⟩ := lst_here hr1 r hx
        refine ⟨.inl ⟨rfl, vs, .of hH⟩, ρ1, ds, h1, sr.mono p1 k1, hr1, q1.bnd.mono fun ys ρ2 h2 H2 p2 k2 hr2 q2 ws rl2 => ?_⟩
        have ea2 := pre_get p2 ea
        cases ys with
        | nil => exact q2.elim
        | cons y ys => cases ys with
          | cons _ _ => exact q2.elim
          | nil =>
            have q2 : Pst G (wAt W σ) ρ2 H2 (match h2[l']? with
              | some (.lst xs) => if xs.length < SZ then .ok .non (put h2 l' (.lst (xs ++ [y]))) else .no
              | _ => .no) (pV G Q) := q2
            split at q2
            · rename_i xs2 hx2
              obtain ⟨hz, q2⟩ := Pst.ite q2
              obtain ⟨vs2, e1, e2⟩ := hr2.lst ea2 hx2
              have rl3 := rl2
              unfold RL at rl3
              obtain ⟨w, ws', rfl, rw', rn⟩ := rl3
              unfold RL at rn
              subst rn
              exact ⟨a', vs2, w, rfl, rfl, e1, by rw [e2.length, ← SZ_eq]; exact hz, lst_put hr2 ea2 hx2 e1 (e2.app rl2) R.ofNon q2⟩
            · exact q2.elim
      | acons b r =>
        have h0 : (alen r + 1 + 1 == 1) = true := h0
        rw [beq_iff_eq] at h0
        omega
      | _ => cases hes
    | anil => cases h0
    | _ => cases hes
  | pop0 =>
    cases es with
    | anil =>
      refine PE.imp (pe_bm0 PySem.F.plainAttrs_list PySem.F.slot_list_pop PySem.F.type_list_pop mt_pop ho (src_base h2 "pop" X.env) h3) fun σ H Q w => ?_
      have w : rd G W (fun s h => (ev F o s h).bnd fun x h1 => if lstQ h1 x = true then bmop .pop0 x [] h1 else .no) σ H (pV G Q) := w
      refine one w fun ρ ds x h' H' v sr hr r q => ?_
      obtain ⟨hx, q⟩ := Pst.ite (c := lstQ h' x = true) q
      obtain ⟨l', a', xs, vs, rfl, rfl, ea, hx, hH, rl⟩ := lst_here hr r hx
      refine ⟨.inl ⟨rfl, vs, .of hH⟩, ?_⟩
      have q : Pst G (wAt W σ) ρ H' (match h'[l']? with
        | some (.lst xs) => match xs.getLast? with
          | some y => .ok y (put h' l' (.lst xs.dropLast))
          | none => .no
        | _ => .no) (pV G Q) := q
      rw [hx] at q
      have q : Pst G (wAt W σ) ρ H' (match xs.getLast? with
          | some y => .ok y (put h' l' (.lst xs.dropLast))
          | none => .no) (pV G Q) := q
      split at q
      · rename_i y hy
        rw [← last_get] at hy
        obtain ⟨w, g1, g2⟩ := rl.get hy
        exact ⟨a', vs, w, rfl, rfl, hH, by rw [rl.length]; exact g1, lst_put hr ea hx hH rl.dropLast g2 q⟩
      · exact q.elim
    | acons a r =>
      have h0 : (alen r + 1 == 0) = true := h0
      rw [beq_iff_eq] at h0
      omega
    | _ => cases hes
  | _ => cases h0
end
end Ms

/-! Targets, blocks, list comprehensions. -/
namespace Ms
open PySem PySem.Spec PyProof.Rows L2 Mx

section
variable {G : GL} {F : Cf} {N : List Str} {sc : List (Str × NameKind)} {W : WX} {X : Cx}
/-! ### targets -/
def ixs : Tg → List Nat
  | .one i _ _ => [i]
  | .many l _ => l.map (·.1)
def tg1 (N : List Str) (sc : List (Str × NameKind)) (i : Nat) (x : Str) : Bool := decide (N[i]? = some x) && isLoc sc x
def tgOk (N : List Str) (sc : List (Str × NameKind)) : Tg → Bool
  | .one i x _ => tg1 N sc i x
  | .many l _ => l.all fun t => tg1 N sc t.1 t.2.1
theorem tg1_ok (g : GX G F N sc W X) {i : Nat} {x : Str} {p : Pos} (h : tg1 N sc i x = true) : PG X (.Name x p) (gName i) := by
  unfold tg1 at h
  rw [Bool.and_eq_true] at h
  obtain ⟨h1, h2⟩ := g.sco.locs h.2
  exact pg_name (by rw [g.hN]; exact g.nd) (by rw [g.hN]; exact of_decide_eq_true h.1) h1 h2
def gDs (K : PySem.W.Frag) (l : List (Nat × Str × Pos)) : TGs := fun vs σ H Q => ∃ ρ ds s s1, RL K ρ H ds vs ∧ SR K ρ H s σ ∧ asgs s l ds = some s1 ∧ ∀ σ2, SR K ρ H s1 σ2 → (∀ i, i ∉ l.map (·.1) → σ2[i]? = σ[i]?) → Q σ2 H
def gD (K : PySem.W.Frag) (tg : Tg) : TG := fun v σ H Q => ∃ ρ d s s1, R K ρ H d v ∧ SR K ρ H s σ ∧ tg.set d s = some s1 ∧ ∀ σ2, SR K ρ H s1 σ2 → (∀ i, i ∉ ixs tg → σ2[i]? = σ[i]?) → Q σ2 H
theorem PGs.imp {es : List Expr} {t t' : TGs} (p : PGs X es t) (h : ∀ vs σ H Q, t' vs σ H Q → t vs σ H Q) : PGs X es t' := ⟨fun pins s σ H vs us Q I r w => p.run pins s σ H vs us Q I r (h _ _ _ _ w)⟩
theorem PG.imp {e : Expr} {t t' : TG} (p : PG X e t) (h : ∀ v σ H Q, t' v σ H Q → t v σ H Q) : PG X e t' := ⟨fun pins s σ H v u Q I r w => p.run pins s σ H v u Q I r (h _ _ _ _ w)⟩
theorem pgDs (g : GX G F N sc W X) : ∀ l : List (Nat × Str × Pos), (l.all fun t => tg1 N sc t.1 t.2.1) = true → PGs X (l.map fun t => .Name t.2.1 t.2.2) (gDs X.K l)
  | [], _ => PGs.imp pgs_nil fun vs σ H Q ⟨ρ, ds, s, s1, rl, sr, e, k⟩ => by
    cases ds with
    | nil =>
      unfold RL at rl
      cases e
      exact ⟨rl, k σ sr fun i _ => rfl⟩
    | cons _ _ => cases e
  | t :: l, h => by
    rw [List.all_cons, Bool.and_eq_true] at h
    refine PGs.imp (pgs_cons (tg1_ok g h.1) (pgDs g l h.2)) fun vs σ H Q ⟨ρ, ds, s, s1, rl, sr, e, k⟩ => ?_
    cases ds with
    | nil => cases e
    | cons d ds =>
      unfold RL at rl
      obtain ⟨v, r, rfl, rv, rr⟩ := rl
      refine ⟨v, r, rfl, ρ, ds, asg1 s t.1 d, s1, rr, sr.set rv, e, fun σ2 sr2 ag => k σ2 sr2 fun i hi => ?_⟩
      rw [List.map_cons, List.mem_cons, not_or] at hi
      rw [ag i hi.2, List.getElem?_set_ne (Ne.symm hi.1)]
theorem as_len : ∀ (l : List (Nat × Str × Pos)) (env : Env), (assignEach (l.map fun t => Expr.Name t.2.1 t.2.2) env).length = l.length ∧ (assignEach (l.map fun t => Expr.Name t.2.1 t.2.2) env).findIdx? (·.1) = none
  | [], env => ⟨rfl, rfl⟩
  | t :: l, env => by
    obtain ⟨h1, h2⟩ := as_len l env
    refine ⟨by show _ + 1 = _ + 1; rw [h1], ?_⟩
    show ((false, assign (.Name t.2.1 t.2.2) env) :: assignEach (l.map fun t => Expr.Name t.2.1 t.2.2) env).findIdx? (·.1) = none
    rw [List.findIdx?_cons]
    show (if false = true then some 0 else _) = none
    rw [if_neg Bool.false_ne_true, h2]
    rfl
theorem asgs_len : ∀ {l : List (Nat × Str × Pos)} {ds : List D} {s s1 : Sl}, asgs s l ds = some s1 → ds.length = l.length
  | [], [], _, _, _ => rfl
  | [], _ :: _, _, _, e => by cases e
  | _ :: _, [], _, _, e => by cases e
  | _ :: l, _ :: ds, _, _, e => by rw [List.length_cons, List.length_cons, asgs_len (l := l) (ds := ds) e]
theorem pgD (g : GX G F N sc W X) {tg : Tg} (h : tgOk N sc tg = true) : PG X tg.src (gD X.K tg) := by
  cases tg with
  | one i x p =>
    refine PG.imp (tg1_ok g h) fun v σ H Q ⟨ρ, d, s, s1, r, sr, e, k⟩ => ?_
    cases e
    refine k _ (sr.set r) fun j hj => ?_
    have hj : j ∉ [i] := hj
    rw [List.mem_singleton] at hj
    rw [List.getElem?_set_ne (Ne.symm hj)]
  | many l p =>
    obtain ⟨h1, h2⟩ := as_len l X.env
    refine PG.imp (pg_tup g.calm (pgDs g l h) h1 h2) fun v σ H Q ⟨ρ, d, s, s1, r, sr, e, k⟩ => ?_
    cases d with
    | tup ds =>
      have e : asgs s l ds = some s1 := e
      obtain ⟨a, vs, rfl, t, rl⟩ := r.tup
      exact ⟨a, vs, rfl, t.sq, by rw [rl.length, asgs_len e], ρ, ds, s, s1, rl, sr, e, k⟩
    | _ => cases e
/-! ### slots that are forgotten -/
theorem wipe_get (σ : L2.St) : ∀ (vs : List Nat) (i : Nat), (L2.wipe σ vs)[i]? = if i ∈ vs then (if i < σ.length then some none else none) else σ[i]?
  | [], i => by simp [L2.wipe]
  | v :: vs, i => by
    unfold L2.wipe
    by_cases h : i = v
    · subst h
      rw [if_pos List.mem_cons_self]
      by_cases hl : i < (L2.wipe σ vs).length
      · rw [List.getElem?_set_self hl, if_pos (by rw [← wipe_length σ vs]; exact hl)]
      · rw [List.getElem?_eq_none (by simpa using hl), if_neg (by rw [← wipe_length σ vs]; exact hl)]
    · rw [List.getElem?_set_ne (Ne.symm h), wipe_get σ vs i]
      by_cases h2 : i ∈ vs
      · rw [if_pos h2, if_pos (List.mem_cons_of_mem _ h2)]
      · rw [if_neg h2, if_neg (by simp [h, h2])]
theorem wipe_eq {σ σ2 : L2.St} {vs : List Nat} (hl : σ2.length = σ.length) (h : ∀ i, i ∉ vs → σ2[i]? = σ[i]?) : L2.wipe σ2 vs = L2.wipe σ vs := by
  apply List.ext_getElem?
  intro i
  rw [wipe_get, wipe_get, hl]
  by_cases hi : i ∈ vs
  · rw [if_pos hi, if_pos hi]
  · rw [if_neg hi, if_neg hi, h i hi]
theorem wipe_wipe (σ : L2.St) (vs : List Nat) : L2.wipe (L2.wipe σ vs) vs = L2.wipe σ vs := wipe_eq (wipe_length σ vs) fun i hi => by rw [wipe_get, if_neg hi]
/-! ### the block's own place -/
def W0 : WX := fun _ _ _ _ => False
theorem lookup_free {sc : Scope} : ∀ {names : List (Str × NameKind)} {x : Str}, names.lookup x = some .free →
    (names.map fun (n, k) => if (k == NameKind.free && sc.kind == .function && sc.names.lookup n == some .cell) then (n, NameKind.cell) else (n, k)).lookup x = some .cell ∨
    (names.map fun (n, k) => if (k == NameKind.free && sc.kind == .function && sc.names.lookup n == some .cell) then (n, NameKind.cell) else (n, k)).lookup x = some .free
  | [], _, h => by simp at h
  | (n, k₀) :: r, x, h => by
    have ih := @lookup_free sc r x
    show List.lookup x ((if (k₀ == NameKind.free && sc.kind == .function && sc.names.lookup n == some .cell) = true then (n, NameKind.cell) else (n, k₀)) :: (r.map _)) = some _ ∨ List.lookup x ((if (k₀ == NameKind.free && sc.kind == .function && sc.names.lookup n == some .cell) = true then (n, NameKind.cell) else (n, k₀)) :: (r.map _)) = some _
    cases hx : x == n with
    | true =>
      simp only [List.lookup_cons, hx] at h
      cases h
      by_cases hc : (NameKind.free == NameKind.free && sc.kind == .function && sc.names.lookup n == some .cell) = true
      · rw [if_pos hc]; left; simp only [List.lookup_cons, hx]
      · rw [if_neg hc]; right; simp only [List.lookup_cons, hx]
    | false =>
      simp only [List.lookup_cons, hx] at h
      by_cases hc : (k₀ == NameKind.free && sc.kind == .function && sc.names.lookup n == some .cell) = true
      · rw [if_pos hc]; simp only [List.lookup_cons, hx]; exact ih h
      · rw [if_neg hc]; simp only [List.lookup_cons, hx]; exact ih h
theorem GX.blk (g : GX G F N sc W X) {scope : Scope} (hne : scope.names ≠ G.lsc) (s : Shared) (H : Hp) (C : Addr) (cl : List (Str × Addr)) (fp : List Addr) : GX G F N scope.names W0 (X.blk s H scope (compEnvC scope cl C X.env) fp) where
  gf := g.gf
  K := g.K
  mg := g.mg
  calm := g.calm
  hN := g.hN
  nd := g.nd
  sco := {
    loc := fun x h => lookup_relS_keep (by decide) h
    cel := fun x h => ⟨lookup_relS_keep (by decide) h, by
      show (scope.names.lookup x == some .cell) = true
      rw [h]; rfl⟩
    fre := fun x h => lookup_free h
    glo := fun x h => lookup_relS_keep (by decide) h }
  tk := takes0
  md := g.md
  ini := g.ini
  cf := g.cf
  mf := g.mf
  xk := g.xk
  lm := fun e => absurd e hne
theorem GF.wf (g : GF G) (fr : List (Addr × List V)) : GF (G.wf fr) := ⟨g.nnd, g.glo, g.fn, g.bin, g.cls, g.ins, g.nat, g.blt, g.mth, g.xcl, g.xno, g.kb, g.exm⟩
theorem LamFacts.wf (l : LamFacts G F X) (fr : List (Addr × List V)) : LamFacts (G.wf fr) F X := ⟨⟨l.1.ex⟩, l.2⟩
theorem GX.wf (g : GX G F N sc W X) (fr : List (Addr × List V)) : GX (G.wf fr) F N sc W X := ⟨g.gf.wf fr, g.K, g.mg, g.calm, g.hN, g.nd, g.sco, g.tk, g.md, g.ini, g.cf, g.mf, g.xk, fun e => (g.lm e).wf fr⟩
theorem HR.less {ρ : Rho} {h : AH} {H : Hp} {p : Addr × List V} {fr : List (Addr × List V)} (r : HR (G.wf (p :: fr)) ρ h H) : HR (G.wf fr) ρ h H := by
  refine ⟨r.len, r.nd, fun l a o e1 e2 => OR_wf.mpr (OR_wf.mp (r.obj l a o e1 e2)), r.tab, fun q hq => r.frm q (List.mem_cons_of_mem _ hq), ?_⟩
  have := r.frn
  exact (List.nodup_cons.mp (show ((p :: fr).map (·.1)).Nodup from this)).2
def blkQ (N : List Str) (sc : List (Str × NameKind)) (scope : Scope) (own : List (Str × Nat)) : Bool := blkC N { scope with names := sc } scope own
theorem blkQ_ok (g : GX G F N sc W X) {scope : Scope} {own : List (Str × Nat)} (h : blkQ N sc scope own = true) : BlkOk X.N X.env.scope scope own := by
  have b := blkOk_by h
  refine ⟨b.kind, b.uniq, fun p hp => by rw [g.hN]; exact b.ix p hp, fun y hy e => ?_, fun y hy e => by rw [g.hN]; exact b.own y hy e⟩
  rcases b.free y hy e with z | z
  · exact .inl (g.sco.cel _ z).1
  · exact g.sco.fre _ z
/-! ### the comprehension's run -/
theorem lcM_ok {t : D → Sl → Option Sl} {c : M Bool} {e : M D} {g : Option (Nat × List D)} {s : Sl} : ∀ {xs : List D} {h : AH}, (∃ ys h', lcM t c e g s xs h = .ok ys h') ∨ lcM t c e g s xs h = .no
  | [], h => by
    unfold lcM
    by_cases hg : grd g h = true
    · rw [if_pos hg]; exact .inl ⟨_, _, rfl⟩
    · rw [if_neg hg]; exact .inr rfl
  | x :: xs, h => by
    unfold lcM
    by_cases hg : grd g h = true
    · rw [if_pos hg]
      cases t x s with
      | none => exact .inr rfl
      | some s1 =>
        dsimp only
        cases c s1 h with
        | ok b h1 =>
          cases b with
          | true =>
            dsimp only
            cases e s1 h1 with
            | ok y h2 =>
              dsimp only
              rcases lcM_ok (t := t) (c := c) (e := e) (g := g) (s := s) (xs := xs) (h := h2) with ⟨ys, h', q⟩ | q
              · rw [q]; exact .inl ⟨_, _, rfl⟩
              · rw [q]; exact .inr rfl
            | ex _ _ _ => exact .inr rfl
            | no => exact .inr rfl
          | false => exact lcM_ok
        | ex _ _ _ => exact .inr rfl
        | no => exact .inr rfl
    · rw [if_neg hg]; exact .inr rfl
/-- one turn, told -/
theorem lcM_turn {t : D → Sl → Option Sl} {c : M Bool} {e : M D} {g : Option (Nat × List D)} {s : Sl} {x : D} {xs ys : List D} {h hE : AH} (q : lcM t c e g s (x :: xs) h = .ok ys hE) :
    grd g h = true ∧ ∃ s1, t x s = some s1 ∧ ((∃ h1 y h2 zs, c s1 h = .ok true h1 ∧ e s1 h1 = .ok y h2 ∧ lcM t c e g s xs h2 = .ok zs hE ∧ ys = y :: zs) ∨ ∃ h1, c s1 h = .ok false h1 ∧ lcM t c e g s xs h1 = .ok ys hE) := by
  unfold lcM at q
  by_cases hg : grd g h = true
  · rw [if_pos hg] at q
    refine ⟨hg, ?_⟩
    cases ht : t x s with
    | none => rw [ht] at q; cases q
    | some s1 =>
      rw [ht] at q
      refine ⟨s1, rfl, ?_⟩
      dsimp only at q
      cases hc : c s1 h with
      | ok b h1 =>
        rw [hc] at q
        cases b with
        | true =>
          dsimp only at q
          cases he : e s1 h1 with
          | ok y h2 =>
            rw [he] at q
            dsimp only at q
            cases hl : lcM t c e g s xs h2 with
            | ok zs h3 =>
              rw [hl] at q
              cases q
              exact .inl ⟨h1, y, h2, zs, rfl, he, hl, rfl⟩
            | ex _ _ _ => rw [hl] at q; cases q
            | no => rw [hl] at q; cases q
          | ex _ _ _ => rw [he] at q; cases q
          | no => rw [he] at q; cases q
        | false => exact .inr ⟨h1, rfl, q⟩
      | ex _ _ _ => rw [hc] at q; cases q
      | no => rw [hc] at q; cases q
  · rw [if_neg hg] at q; cases q
theorem lcM_end {t : D → Sl → Option Sl} {c : M Bool} {e : M D} {g : Option (Nat × List D)} {s : Sl} {ys : List D} {h hE : AH} (q : lcM t c e g s [] h = .ok ys hE) : grd g h = true ∧ ys = [] ∧ hE = h := by
  unfold lcM at q
  by_cases hg : grd g h = true
  · rw [if_pos hg] at q; cases q; exact ⟨hg, rfl, rfl⟩
  · rw [if_neg hg] at q; cases q
end
end Ms

/-! A list comprehension in the model. -/
namespace Ms
open PySem PySem.Spec PyProof.Rows L2 Mx

section
variable {G : GL} {F : Cf} {N : List Str} {sc : List (Str × NameKind)} {W : WX} {X : Cx}
def tTf (G : GL) (m : M Bool) : TT := fun σ H Q => ∃ fr, tT (G.wf fr) W0 m σ H Q
def tEf (G : GL) (m : M D) : TE := fun σ H Q => ∃ fr, tE (G.wf fr) W0 m σ H Q
/-- where the turns stand -/
def LcI (G : GL) (ρ1 : Rho) (H1 : Hp) (t : D → Sl → Option Sl) (c : M Bool) (e : M D) (w : Wk) (s : Sl) (all : List D) (hE : AH) (D0 : Addr) (i : Nat) (H : Hp) : Prop :=
  ∃ (ρ : Rho) (h : AH) (vs : List V) (acc ys : List D), ρ1 <+: ρ ∧ Kp H1 H ∧ HR (G.wf ((D0, vs) :: G.fr)) ρ h H ∧ RL G.K ρ H acc vs ∧ acc.length ≤ i ∧ lcM t c e w.2 s (w.1.drop i) h = .ok ys hE ∧ acc ++ ys = all
theorem plcT (g : GX G F N sc W X) {elt : E} {tg : Tg} {it cond : E} {own : List (Str × Nat)} {scope : Scope} {p : Pos} (hsub : ∀ i ∈ ixs tg, i ∈ own.map (·.2)) {σ : L2.St} {H : Hp} {Q : VK} (w : tN G W (evl F (.lc elt tg it cond own scope p)) σ H Q) :
    tLc (tI G W (evi F it)) (gD X.K tg) (tTf G (evc F cond)) (tEf G (ev F elt)) (own.map (·.2)) σ H Q := by
  obtain ⟨ρ, ds, h, sr, hr, q⟩ := w
  have q : Pst G (wAt W σ) ρ H ((evi F it ds h).bnd fun w h1 => if w.1.length ≤ SZ then lcM tg.set (evc F cond) (ev F elt) w.2 (wip ds own) w.1 h1 else .no) (pN G Q) := q
  refine ⟨ρ, ds, h, sr, hr, q.bnd.mono fun w ρ1 h1 H1 p1 k1 hr1 q1 hg1 J hJ D0 hD0 => ?_⟩
  obtain ⟨hz, q1⟩ := Pst.ite q1
  have sr1 : SR G.K ρ1 H1 (wip ds own) (L2.wipe σ (own.map (·.2))) := (sr.mono p1 k1).wipe own
  rcases lcM_ok (t := tg.set) (c := evc F cond) (e := ev F elt) (g := w.2) (s := wip ds own) (xs := w.1) (h := h1) with ⟨all, hE, eA⟩ | eA
  case inr => rw [eA] at q1; exact q1.elim
  rw [eA] at q1
  refine ⟨fun i m H => m = w.1.length - i ∧ i ≤ w.1.length ∧ LcI G ρ1 H1 tg.set (evc F cond) (ev F elt) w (wip ds own) all hE D0 i H, ⟨w.1.length, rfl, Nat.zero_le _, ρ1, h1, [], [], all, List.prefix_refl _, Kp.new hD0, hr1.begin hD0, RL.nil, Nat.le_refl _, eA, rfl⟩, ?_⟩
  rintro i m H2 ⟨em, hi, ρ2, h2, vs, acc, ys, p2, k2, hr2, rl2, hacc, e2, eall⟩
  have hD : H2 D0 = some (.lst vs) := (hr2.frm (D0, vs) (List.mem_cons_self : (D0, vs) ∈ (D0, vs) :: G.fr)).1
  by_cases hlt : i < w.1.length
  case neg =>
    have ei : i = w.1.length := by omega
    rw [ei, List.drop_length] at e2
    obtain ⟨hg, e3, e4⟩ := lcM_end e2
    subst e3 e4
    rw [List.append_nil] at eall
    subst eall
    left
    rw [ei]
    refine ⟨hJ.stop _ ρ2 hE H2 p2 k2 hr2 hg, ?_⟩
    have z := q1 ρ2 (del H2 D0) p2 (k2.trans (Kp.del hD)) hr2.stop vs D0 (rl2.mono (List.prefix_refl _) (Kp.del hD)) del_same
    rw [del_upd hD] at z
    exact z
  case pos =>
    right
    have hdrop : w.1.drop i = w.1[i] :: w.1.drop (i + 1) := List.drop_eq_getElem_cons hlt
    rw [hdrop] at e2
    obtain ⟨hg, s1, es, turn⟩ := lcM_turn e2
    refine ⟨hJ.go i _ ρ2 h2 H2 hlt p2 k2 hr2 hg, fun H' => LcI G ρ1 H1 tg.set (evc F cond) (ev F elt) w (wip ds own) all hE D0 (i + 1) H', fun H' nx => ⟨w.1.length - (i + 1), by omega, rfl, hlt, nx⟩, fun x H3 y => ?_⟩
    obtain ⟨d, ed, rd', hr3, k3⟩ := hJ.yld i _ ρ2 h2 H2 x H3 hlt p2 k2 hr2 hg y
    have ed2 : d = w.1[i] := by
      rw [List.getElem?_eq_getElem hlt] at ed
      exact (Option.some.inj ed).symm
    subst ed2
    have sr3 : SR G.K ρ2 H3 (wip ds own) (L2.wipe σ (own.map (·.2))) := sr1.mono p2 (k2.trans k3)
    rw [← g.K] at rd' sr3
    refine ⟨ρ2, _, wip ds own, s1, rd', sr3, es, fun σ2 sr4 ag => ⟨?_, ?_⟩⟩
    · rw [← wipe_wipe σ]
      refine wipe_eq ?_ fun j hj => ag j fun z => hj (hsub j z)
      have l1 := sr4.1
      have l2 := sr3.1
      have l3 : s1.length = (wip ds own).length := by
        cases tg with
        | one a b c => cases es; simp [asg1]
        | many l pp =>
          have : ∀ (l : List (Nat × Str × Pos)) (ds : List D) (s s1 : Sl), asgs s l ds = some s1 → s1.length = s.length := by
            intro l
            induction l with
            | nil => intro ds s s1 e; cases ds with
              | nil => cases e; rfl
              | cons _ _ => cases e
            | cons t l ih => intro ds s s1 e; cases ds with
              | nil => cases e
              | cons d ds => rw [ih ds _ s1 e]; simp [asg1]
          cases hd : w.1[i] with
          | tup xs => rw [hd] at es; exact this l xs _ s1 es
          | _ => rw [hd] at es; cases es
      omega
    · have sr5 : SR G.K ρ2 H3 s1 σ2 := by rw [← g.K]; exact sr4
      refine ⟨(D0, vs) :: G.fr, ρ2, s1, h2, sr5, hr3, ?_⟩
      rcases turn with ⟨h4, y', h5, zs, ec, ee, el, ey⟩ | ⟨h4, ec, el⟩
      · rw [ec]
        intro ρ4 H4 p4 k4 hr4
        dsimp only [pB]
        rw [if_pos rfl]
        refine ⟨(D0, vs) :: G.fr, ρ4, s1, h4, ?_, hr4, ?_⟩
        · exact sr5.mono p4 k4
        · rw [ee]
          intro ρ5 H5 p5 k5 hr5 v5 r5
          have hD5 : H5 D0 = some (.lst vs) := (hr5.frm (D0, vs) (List.mem_cons_self : (D0, vs) ∈ (D0, vs) :: G.fr)).1
          have kk : Kp H5 (upd H5 D0 (.lst (vs ++ [v5]))) := Kp.upd fun xs z => by rw [hD5] at z; cases z
          have k25 : Kp H2 H5 := k3.trans (k4.trans k5)
          refine ⟨vs, hD5, ?_, ρ5, h5, vs ++ [v5], acc ++ [y'], zs, p2.trans (p4.trans p5), (k2.trans k25).trans kk, hr5.grow, ?_, ?_, el, ?_⟩
          · rw [rl2.length, ← SZ_eq]; omega
          · exact ((rl2.mono (p4.trans p5) k25).app (RL.cons r5 RL.nil)).mono (List.prefix_refl _) kk
          · rw [List.length_append, List.length_cons, List.length_nil]; omega
          · rw [← eall, ey, List.append_assoc]; rfl
      · rw [ec]
        intro ρ4 H4 p4 k4 hr4
        dsimp only [pB]
        rw [if_neg Bool.false_ne_true]
        exact ⟨ρ4, h4, vs, acc, ys, p2.trans p4, (k2.trans k3).trans k4, hr4, rl2.mono p4 (k3.trans k4), by omega, el, eall⟩
theorem ptsO {cond : E} (h : cond = .onone ∨ ∃ e, cond = .osome e ∧ ∀ fr, PT X e.src (tT (G.wf fr) W0 (evt F e))) : PTs X cond.srco.toList (tTf G (evc F cond)) := by
  rcases h with rfl | ⟨e, rfl, h⟩
  · exact ⟨fun pins s σ H Q I ⟨fr, ρ, ds, h0, sr, hr, p⟩ => pts_nil.run pins s σ H Q I (Pst.here p hr)⟩
  · exact ⟨fun pins s σ H Q I ⟨fr, w⟩ => (pts_one (h fr)).run pins s σ H Q I w⟩
theorem plc (g : GX G F N sc W X) {elt : E} {tg : Tg} {it cond : E} {own : List (Str × Nat)} {scope : Scope} {p : Pos} (hsub : ∀ i ∈ ixs tg, i ∈ own.map (·.2)) (hne : scope.names ≠ G.lsc) (hb : blkQ N sc scope own = true) (ht : tgOk N scope.names tg = true)
    (hi : PI X tg.src it.src (tI G W (evi F it)))
    (hc : ∀ X', GX G F N scope.names W0 X' → PTs X' cond.srco.toList (tTf G (evc F cond)))
    (he : ∀ X', GX G F N scope.names W0 X' → PE X' elt.src (tEf G (ev F elt))) : PE X (E.lc elt tg it cond own scope p).src (tN G W (evl F (.lc elt tg it cond own scope p))) :=
  PE.imp (pe_lc g.calm (by rw [g.hN]; exact g.nd) hi (blkQ_ok g hb) (fun s H C cl fp => pgD (g.blk hne s H C cl fp) ht) (fun s H C cl fp => hc _ (g.blk hne s H C cl fp)) (fun s H C cl fp => he _ (g.blk hne s H C cl fp)) (src_fold it X.env)) fun σ H Q w => plcT g hsub w
end
end Ms

/-! A lambda handed to the def that tells what is refused. -/
namespace Ms
open PySem PySem.Spec PyProof.Rows L2 Mx

section
variable {G : GL} {F : Cf} {N : List Str} {sc : List (Str × NameKind)} {W : WX} {X : Cx}
/-- what that def makes of the lambda's reading -/
def TTr (K : PySem.W.Frag) (CS : Addr) (y : Str) : (XK → Hp → VK → Prop) → Hp → VK → Prop := fun tl H Q =>
  tl (fun cls d H' => ∃ b, PySem.W.exmOne K cls (.ref CS) = some b ∧ (b = true → ∃ (dd : Addr) (gs : List (Str × V)) (v : V), cls = .ref CS ∧ d = some dd ∧ H' dd = some (.xd gs) ∧ gs.lookup y = some v ∧ Q v H') ∧ (b = false → False)) H fun _ H' => Q (.str (sS [])) H'
theorem gives_r {x a n ex y q : Str} {sg : Scope} {g CS : Addr} {cdg : Value} {j : Nat} {p1 p2 p3 p4 p5 p6 p7 p8 p9 p10 p11 : Pos} (T : XfC X.K CS) (hno : PySem.W.findIn X.K (.ref CS) y = some none) (Sg : FnScope [a, n] [a] sg) (hn : sg.names.lookup n = some .local) (hgl0 : sg.names.lookup ex = some .globalImplicit) (hme : X.mg ex = some (.ref CS))
    (d1 : (n == ("__debug__" : Str)) = false) (d2 : (n == ("__classdict__" : Str)) = false) (d3 : (ex == ("__debug__" : Str)) = false) :
    LamX.GivesTo X [a, n] x sg g cdg [.Try [.Expr (.Call (.Name a p1) [] [] p2) p3] [.ExceptHandler (some (.Name ex p4)) (some n) [.Return (some (.Attribute (.Name n p5) y p6)) p7] p8] [] [] p9, .Return (some (.Constant (.str (sS [])) j p10)) p11] a q (TTr X.K CS y) := by
  intro f c' s H Q tl act hc h
  have hgl : Gl (cxOf C8.CX0 X.prog X.w X.K X.mg X.base [a, n] x sg g cdg X.A X.stack s H C8.E0).nox ex := hgl0
  have hv : Vis (cxOf C8.CX0 X.prog X.w X.K X.mg X.base [a, n] x sg g cdg X.A X.stack s H C8.E0).nox.env.scope n := .inl hn
  refine ⟨_, pss_cons (ps_try_as (X := (cxOf C8.CX0 X.prog X.w X.K X.mg X.base [a, n] x sg g cdg X.A X.stack s H C8.E0).nox) (c := .ref CS) (i := 1)
      (tb := fun W D σ H => ∃ Ech : XK, (∀ cls d σ' H', Ech cls d H' → σ'.length = 2 → W cls d σ' H') ∧ σ[0]? = some (some (.ref f)) ∧ H c' = some (LamX.CodeO c' q) ∧ tl Ech H fun _ H' => D.nx σ H')
      (ts := fun a cls d => tRet (tXf a cls d CS y (tVar 1)))
      rfl rfl Sg.nd rfl hn ⟨hgl, d3, .inl hme⟩ takes0 (fun W pn xe tk _ => ?_) (fun a oe cls d pn hz hfl => pss_one (ps_ret (pe_xf T hno hz hfl (pe_var (i := 1) rfl hv d1 d2) rfl)))) (pss_one (ps_ret pe_str)), ?_⟩
  · refine ⟨fun pins s' σ H' D I h' => ?_⟩
    obtain ⟨Ech, hW, h1, h2, h3⟩ := h'
    have hp := act (fun cls d σ' H' => σ'.length = 2 → W cls d σ' H') pn xe Ech p1 p2 (fun u s' ⟨a, B, sI, pins, σ, H, cls, d, e, I, nb, up, sky, na, os, ag, w⟩ => tk u s' ⟨a, B, sI, pins, σ, H, cls, d, e, I, nb, up, sky, na, os, ag, w I.len⟩) (fun cls d σ' H' e hl => hW cls d σ' H' e hl)
    have hq := pss_one (ps_expr (pos := p3) hp rfl)
    exact hq.run pins s' σ H' D I ⟨h1, h2, h3⟩
  · refine ⟨_, fun cls d σ' H' ⟨b, e1, e2, e3⟩ hl => ⟨b, e1, fun hb a' ha => ?_, fun hb => (e3 hb).elim⟩, rfl, hc, h⟩
    obtain ⟨dd, gs, v, ec, ed, eg, el, qv⟩ := e2 hb
    exact ⟨.ref a', by rw [List.getElem?_set_self (by rw [hl]; decide)], rfl, ec, dd, gs, v, ed, eg, el, qv⟩
/-- all but the tables stays -/
theorem HR.extN {ρ : Rho} {h : AH} {H H1 : Hp} (r : HR G ρ h H) (e : LamX.ExtN H H1) (t : LamX.Tabs G.T H1) : HR G ρ h H1 ∧ Kp H H1 := by
  have k : Kp H H1 := fun a xs ha => e a _ ha fun ps z => by cases z
  refine ⟨⟨r.len, r.nd, fun l a o e1 e2 => ?_, t, fun q hq => ⟨e _ _ (r.frm q hq).1 fun ps z => (by cases z), (r.frm q hq).2⟩, r.frn⟩, k⟩
  have z := r.obj l a o e1 e2
  cases o with
  | lst ds => obtain ⟨vs, q, rr⟩ := z; exact ⟨vs, e _ _ q fun ps z => (by cases z), rr.mono (List.prefix_refl _) k⟩
  | frz ds =>
    obtain ⟨vs, q, rr⟩ := z
    refine ⟨vs, ?_, rr.mono (List.prefix_refl _) k⟩
    rcases q with ⟨o, q⟩ | q
    · exact .inl ⟨o, e _ _ q fun ps z => (by cases z)⟩
    · exact .inr q
  | ins c fs => obtain ⟨dx, gs, q, rr, t⟩ := z; exact ⟨dx, gs, e _ _ q fun ps z => (by cases z), rr.mono (List.prefix_refl _) k, t⟩
  | dic _ => exact z
theorem prefd (g : GX G F N sc W X) (lf : LamFacts G F X) {c f : Nat} {x : Str} {px pl p : Pos} {scope : Scope} {b : E} (h0 : G.lrf = (x, c, f)) (h1 : isGlo sc x = true) (h2 : plainN x = true) (h3 : LamX.lamSB { scope with names := sc } scope = true) (hne : scope.names ≠ G.lsc)
    (hb : ∀ {W' : WX} {X' : Cx}, GX G F N scope.names W' X' → PE X' b.src (tE G W' (ev F b))) : PE X (E.refd c f x px scope b pl p).src (tE G W (ev F (.refd c f x px scope b pl p))) := by
  obtain ⟨rf, k, cc, P, hr, hk, TB, hcode, hmT, hu, hcf, hmf, hxk⟩ := lf
  rw [h0] at rf
  obtain ⟨ga, pg, bg, sg, dV, kV, doc, pm, cdv, ct, oc, an, od, osl, a, n, ex, y, p1, p2, p3, p4, p5, p6, p7, p8, p9, p10, p11, j, l, hm, hkp, lk, hcg, hbd, Sg, ha, hn, hge, hcN, hxf, hfl, hnm, da, da2, dn, dn2, de, rfl⟩ := rf.ex
  have hno := g.gf.xno c l f y hxf hfl hnm
  obtain ⟨_, Tx, _⟩ := g.gf.xcl c l hxf
  have hme := g.gf.cls c ex hcN
  have L : LamX.LamS X.env.scope scope := by
    have L0 := LamX.lamS_by h3
    refine ⟨L0.kind, L0.co, L0.gen, L0.own, fun y hy e => ?_⟩
    rcases L0.free y hy e with z | z
    · exact .inl (g.sco.cel _ z).1
    · exact g.sco.fre _ z
  rw [← g.K] at hkp lk hcg hbd Tx hno
  rw [← g.mg] at hm hme
  refine PE.imp (LamX.pe_lamcall (T := G.T) (TT := TTr X.K (G.cA c) y) (k := k + 1) (t := fun E => tE G (fun cls d _ H => E cls d H) (ev F b)) (g.sco.gl h1) hm hkp lk hcg hbd Sg rfl (.inl ha) (gives_r Tx hno Sg hn hge hme dn dn2 de) TB hcode hmT hu hr L rfl (fun _ _ _ _ _ => rfl) (fun A outer s H E fa c' hrA => ?_) (plainN1 h2) da da2) fun σ H Q w => ?_
  · refine hb (X' := LamX.lamCx X A outer s H E scope fa c') (W' := fun cls d _ H => E cls d H) {
      gf := g.gf
      K := g.K
      mg := g.mg
      calm := rfl
      hN := g.hN
      nd := g.nd
      sco := ⟨fun x h => h, fun x h => ⟨h, absurd rfl (L.own _ (PySem.mem_of_lookup h)).2⟩, fun x h => .inr h, fun x h => h⟩
      tk := takes_of rfl rfl rfl rfl
      md := g.md
      ini := g.ini
      cf := ⟨k + 1, hrA, hcf⟩
      mf := ⟨k, hrA, hmf⟩
      xk := ⟨1, hrA.mono (by omega), hxk⟩
      lm := fun e => absurd e hne }
  · obtain ⟨ρ, ds, h, sr, hr', q⟩ := w
    refine ⟨hr'.tab, fun H1 eN t1 => ?_⟩
    obtain ⟨hr1, k1⟩ := hr'.extN eN t1
    refine ⟨ρ, ds, h, sr.mono (List.prefix_refl _) k1, hr1, ?_⟩
    have q : Pst G (wAt W σ) ρ H (match ev F b ds h with
      | .ok _ h1 => .ok (.str []) h1
      | .ex c' fs h1 => if c' = c then optR (fget fs f) h1 else .no
      | .no => .no) (pV G Q) := q
    cases e : ev F b ds h with
    | ok d h1 =>
      rw [e] at q
      exact fun ρ' H' pre kp hr2 v _ => q ρ' H' pre (k1.trans kp) hr2 _ (R.ofStr [])
    | ex c' fs h1 =>
      rw [e] at q
      obtain ⟨hc, q0⟩ := Pst.ite (c := c' = c) q
      subst hc
      obtain ⟨d, ed, q1⟩ := Pst.opt q0
      intro ρ' H' e' gs pre kp hr2 he xr
      refine ⟨decide (c' = c'), by rw [g.K]; exact g.gf.exm c' c' (by rw [hxf]; rfl) (by rw [hxf]; rfl), fun _ => ?_, fun z => by simp at z⟩
      obtain ⟨v, q3, q2⟩ := xr f d y ed hnm
      exact ⟨e', gs, v, rfl, rfl, he, q3, q1 ρ' H' pre (k1.trans kp) hr2 v q2⟩
    | no => rw [e] at q; exact q.elim
end
end Ms

/-! Every expression of the machine in the model. -/
namespace Ms
open PySem PySem.Spec PyProof.Rows L2 Mx

/-- what is fixed of a program -/
structure SD where
  nms : List Str
  cons : List (Str × D)
  fN : Nat → Option Str
  cN : Nat → Option Str
  ini : Nat → Option Nat
  md : Nat → Nat → Option Nat
  xf : Nat → Option (List Nat)
  lsc : List (Str × NameKind)
  lrf : Str × Nat × Nat
  kws : List (Nat × Nat × List Str)
def GL.sd (G : GL) : SD := ⟨G.nms, G.cons, G.fN, G.cN, G.P.ini, G.P.md, G.P.xf, G.lsc, G.lrf, G.kws⟩
def isExp : E → Bool
  | .var _ _ _ | .cst _ _ | .glo _ _ _ | .bin _ _ _ _ | .neg _ _ | .not _ _ | .cmp _ _ _ _ | .cmp2 _ _ _ _ _ _ | .bo _ _ _ _ | .ife _ _ _ _ | .tup _ _ | .newl _ | .ix _ _ _ | .slc _ _ _ _ _ | .rev _ _ _ _ _
  | .att _ _ _ _ | .call _ _ _ _ _ | .make _ _ _ _ _ | .mth _ _ _ _ _ _ | .b1 _ _ _ _ | .bl _ _ _ _ | .isi _ _ _ _ _ | .join _ _ _ _ | .ext _ _ _ _ | .bm _ _ _ _ _ | .refd _ _ _ _ _ _ _ _ | .callk _ _ _ _ _ _ => true
  | _ => false
def isOpt : E → Bool
  | .onone | .osome _ => true
  | _ => false
def isNew : E → Bool
  | .ldisp _ _ | .llist _ _ _ | .lc _ _ _ _ _ _ _ => true
  | _ => false
def isOld : E → Bool
  | .lval _ | .lref _ => true
  | _ => false
def isIt : E → Bool
  | .iseq _ | .irng1 _ _ _ | .irng2 _ _ _ _ | .ienum _ _ _ => true
  | _ => false
def isEn : E → Bool
  | .ienum _ _ _ => true
  | _ => false
def isMany : Tg → Bool
  | .many _ _ => true
  | _ => false
def okE (S : SD) (N : List Str) : E → List (Str × NameKind) → Bool
  | .var i x _, sc => decide (N[i]? = some x) && isVar sc x && plainN x
  | .cst d _, _ => scalD d
  | .glo d x _, sc => decide (S.cons.lookup x = some d) && isGlo sc x && plainN x
  | .bin _ a b _, sc => isExp a && isExp b && okE S N a sc && okE S N b sc
  | .neg a _, sc => isExp a && okE S N a sc
  | .not a _, sc => isExp a && okE S N a sc
  | .cmp _ a b _, sc => isExp a && isExp b && okE S N a sc && okE S N b sc
  | .cmp2 _ _ a b c _, sc => isExp a && isExp b && isExp c && okE S N a sc && okE S N b sc && okE S N c sc
  | .bo _ a r _, sc => isExp a && isArgs r && okE S N a sc && okE S N r sc
  | .ife c a b _, sc => isExp c && isExp a && isExp b && okE S N c sc && okE S N a sc && okE S N b sc
  | .tup es _, sc => isArgs es && okE S N es sc
  | .newl l, sc => isNew l && okE S N l sc
  | .ix a i _, sc => isExp a && isExp i && okE S N a sc && okE S N i sc
  | .slc a lo hi _ _, sc => isExp a && isOpt lo && isOpt hi && okE S N a sc && okE S N lo sc && okE S N hi sc
  | .rev a _ _ _ _, sc => isExp a && okE S N a sc
  | .att a f x _, sc => decide (S.nms[f]? = some x) && noSuper a && isExp a && okE S N a sc
  | .call f x _ es _, sc => decide (S.fN f = some x) && isGlo sc x && plainN x && isArgs es && okE S N es sc
  | .callk f x _ es ks _, sc => decide ((f, alen es, knm ks) ∈ S.kws) && decide (S.fN f = some x) && isGlo sc x && plainN x && isArgs es && isKs ks && okE S N es sc && okE S N ks sc
  | .make c x _ es _, sc => (S.ini c).isSome && decide (S.cN c = some x) && isGlo sc x && plainN x && isArgs es && okE S N es sc
  | .mth o m x ap es p, sc => decide (S.nms[m]? = some x) && noSuper o && (ap.endLine == p.line) && decide (alen es < 30) && isArgs es && isExp o && okE S N o sc && okE S N es sc
  | .b1 b e _ _, sc => isGlo sc b.nm && isExp e && okE S N e sc
  | .bl b l _ _, sc => isGlo sc b.nm && (isNew l || (isOld l && (b == .tuple))) && okE S N l sc
  | .isi e t _ _ _, sc => isGlo sc "isinstance" && isGlo sc t.nm && isExp e && okE S N e sc
  | .join o l ap p, sc => noSuper o && (ap.endLine == p.line) && isExp o && (isNew l || isOld l) && okE S N o sc && okE S N l sc
  | .ext o l ap p, sc => noSuper o && (ap.endLine == p.line) && isExp o && isNew l && okE S N o sc && okE S N l sc
  | .bm m o es ap p, sc => bmOk m (alen es) && noSuper o && (ap.endLine == p.line) && isArgs es && isExp o && okE S N o sc && okE S N es sc
  | .refd c f x _ scope b _ _, sc => decide (sc = S.lsc) && decide (S.lrf = (x, c, f)) && isGlo sc x && plainN x && LamX.lamSB { scope with names := sc } scope && decide (scope.names ≠ S.lsc) && isExp b && okE S N b scope.names
  | .anil, _ => true
  | .acons a r, sc => isExp a && isArgs r && okE S N a sc && okE S N r sc
  | .knil, _ => true
  | .kcons _ e _ r, sc => isExp e && isKs r && okE S N e sc && okE S N r sc
  | .onone, _ => true
  | .osome e, sc => isExp e && okE S N e sc
  | .ldisp es _, sc => isArgs es && okE S N es sc
  | .lval e, sc => isExp e && okE S N e sc
  | .lref e, sc => isExp e && okE S N e sc
  | .llist e _ _, sc => isGlo sc "list" && isExp e && okE S N e sc
  | .lc elt tg it cond own scope _, sc => isIt it && isExp elt && isOpt cond && blkQ N sc scope own && decide (scope.names ≠ S.lsc) && tgOk N scope.names tg && ((ixs tg).all fun i => decide (i ∈ own.map (·.2))) && (!isEn it || isMany tg) && okE S N it sc && okE S N elt scope.names && okE S N cond scope.names
  | .iseq e, sc => isExp e && okE S N e sc
  | .irng1 e _ _, sc => isGlo sc "range" && isExp e && okE S N e sc
  | .irng2 a b _ _, sc => isGlo sc "range" && isExp a && isExp b && okE S N a sc && okE S N b sc
  | .ienum e _ _, sc => isGlo sc "enumerate" && isExp e && okE S N e sc
  | _, _ => false
theorem no1 {b : Bool} {P : Prop} (h : b = false) (z : b = true) : P := by rw [h] at z; cases z
/-- what an expression's reading gives, by its sort -/
structure Big (G : GL) (F : Cf) (W : WX) (X : Cx) (x : E) : Prop where
  e : isExp x = true → PE X x.src (tE G W (ev F x))
  t : isExp x = true → PT X x.src (tT G W (evt F x))
  a : isArgs x = true → PA X x.srcs (tA G W (evs F x))
  ai : isArgs x = true → ∀ a ∈ items x, PE X a.src (tE G W (ev F a)) ∧ PT X a.src (tT G W (evt F a))
  k : isKs x = true → PK X x.srck (tA G W (evs F x))
  o : isOpt x = true → PO X x.srco (tO G W (evo F x))
  c : isOpt x = true → x = .onone ∨ ∃ a, x = .osome a ∧ PT X a.src (tT G W (evt F a))
  n : isNew x = true → PE X x.src (tN G W (evl F x))
  l : isOld x = true → PE X x.src (tL G W false (evl F x))
  i : isIt x = true → ∀ tg, (isEn x = true → isMany tg = true) → PI X (Tg.src tg) x.src (tI G W (evi F x))
section
variable {G : GL} {F : Cf} {N : List Str} {sc : List (Str × NameKind)} {W : WX} {X : Cx}
/-- an expression whose test is its value's -/
theorem big1 (g : X.K = G.K) {e : E} (h : plainT e = true) (he : isExp e = true) (na : isArgs e = false) (nk : isKs e = false) (no : isOpt e = false) (nn : isNew e = false) (nl : isOld e = false) (ni : isIt e = false) (p : PE X e.src (tE G W (ev F e))) : Big G F W X e :=
  ⟨fun _ => p, fun _ => ptV g h p, fun z => no1 na z, fun z => no1 na z, fun z => no1 nk z, fun z => no1 no z, fun z => no1 no z, fun z => no1 nn z, fun z => no1 nl z, fun z => no1 ni z⟩
theorem big2 {e : E} (na : isArgs e = false) (nk : isKs e = false) (no : isOpt e = false) (nn : isNew e = false) (nl : isOld e = false) (ni : isIt e = false) (p : PE X e.src (tE G W (ev F e))) (t : PT X e.src (tT G W (evt F e))) : Big G F W X e :=
  ⟨fun _ => p, fun _ => t, fun z => no1 na z, fun z => no1 na z, fun z => no1 nk z, fun z => no1 no z, fun z => no1 no z, fun z => no1 nn z, fun z => no1 nl z, fun z => no1 ni z⟩
theorem bigN {e : E} (ne : isExp e = false) (na : isArgs e = false) (nk : isKs e = false) (no : isOpt e = false) (nl : isOld e = false) (ni : isIt e = false) (p : PE X e.src (tN G W (evl F e))) : Big G F W X e :=
  ⟨fun z => no1 ne z, fun z => no1 ne z, fun z => no1 na z, fun z => no1 na z, fun z => no1 nk z, fun z => no1 no z, fun z => no1 no z, fun _ => p, fun z => no1 nl z, fun z => no1 ni z⟩
theorem bigO {e : E} (ne : isExp e = false) (na : isArgs e = false) (nk : isKs e = false) (no : isOpt e = false) (nn : isNew e = false) (ni : isIt e = false) (p : PE X e.src (tL G W false (evl F e))) : Big G F W X e :=
  ⟨fun z => no1 ne z, fun z => no1 ne z, fun z => no1 na z, fun z => no1 na z, fun z => no1 nk z, fun z => no1 no z, fun z => no1 no z, fun z => no1 nn z, fun _ => p, fun z => no1 ni z⟩
theorem bigI {e : E} (ne : isExp e = false) (na : isArgs e = false) (nk : isKs e = false) (no : isOpt e = false) (nn : isNew e = false) (nl : isOld e = false) (p : ∀ tg, (isEn e = true → isMany tg = true) → PI X (Tg.src tg) e.src (tI G W (evi F e))) : Big G F W X e :=
  ⟨fun z => no1 ne z, fun z => no1 ne z, fun z => no1 na z, fun z => no1 na z, fun z => no1 nk z, fun z => no1 no z, fun z => no1 no z, fun z => no1 nn z, fun z => no1 nl z, fun _ => p⟩
theorem GX.hu (g : GX G F N sc W X) : X.A.units + 200 < cLine := by
  obtain ⟨k, hk, _⟩ := g.cf
  have := hk.un
  omega
theorem pneg {a : E} {p : Pos} (ha : PE X a.src (tE G W (ev F a))) : PE X (E.neg a p).src (tE G W (ev F (.neg a p))) :=
  PE.imp (pe_un un_neg ha) fun σ H Q w => one (f := fun (x : D) h1 => match x with
    | .int i => Rs.ok (D.int (-i)) h1
    | _ => Rs.no) (P := pV G Q) w fun ρ ds x h' H' v sr hr r q => by
    cases x with
    | int i => exact ⟨i, r.int, hereV hr q (R.ofInt _)⟩
    | _ => exact q.elim
theorem pbin (g : X.K = G.K) {o : BO} {a b : E} {p : Pos} (ha : PE X a.src (tE G W (ev F a))) (hb : PE X b.src (tE G W (ev F b))) : PE X (E.bin o a b p).src (tE G W (ev F (.bin o a b p))) := pop2 (op_binop g o) ha hb
theorem row_star {l : E} {env : Env} : starEach [l.src] env = [(false, eval l.src env)] := src_star l [] env
end
theorem main {F : Cf} {N : List Str} {S : SD} : ∀ (e : E) {G : GL} {sc : List (Str × NameKind)} {W : WX} {X : Cx}, GX G F N sc W X → G.sd = S → okE S N e sc = true → Big G F W X e := by
  intro e
  induction e with
  | var i x p =>
    intro G sc W X g hS ok
    unfold okE at ok
    simp only [Bool.and_eq_true, decide_eq_true_eq] at ok
    exact big1 g.K rfl rfl rfl rfl rfl rfl rfl rfl (pvar g ok.1.1 ok.1.2 ok.2)
  | cst d p =>
    intro G sc W X g hS ok
    exact big1 g.K rfl rfl rfl rfl rfl rfl rfl rfl (pcst ok)
  | glo d x p =>
    intro G sc W X g hS ok
    subst hS
    unfold okE at ok
    simp only [Bool.and_eq_true, decide_eq_true_eq] at ok
    exact big1 g.K rfl rfl rfl rfl rfl rfl rfl rfl (pglo g ok.1.1 ok.1.2 ok.2)
  | bin o a b p iha ihb =>
    intro G sc W X g hS ok
    unfold okE at ok
    simp only [Bool.and_eq_true] at ok
    exact big1 g.K rfl rfl rfl rfl rfl rfl rfl rfl (pbin g.K ((iha g hS ok.1.2).e ok.1.1.1) ((ihb g hS ok.2).e ok.1.1.2))
  | neg a p iha =>
    intro G sc W X g hS ok
    unfold okE at ok
    simp only [Bool.and_eq_true] at ok
    exact big1 g.K rfl rfl rfl rfl rfl rfl rfl rfl (pneg ((iha g hS ok.2).e ok.1))
  | not a p iha =>
    intro G sc W X g hS ok
    unfold okE at ok
    simp only [Bool.and_eq_true] at ok
    exact big2 rfl rfl rfl rfl rfl rfl (pnot g.K ((iha g hS ok.2).e ok.1)) (ptNot ((iha g hS ok.2).t ok.1))
  | cmp o a b p iha ihb =>
    intro G sc W X g hS ok
    unfold okE at ok
    simp only [Bool.and_eq_true] at ok
    have pa := (iha g hS ok.1.2).e ok.1.1.1
    have pb := (ihb g hS ok.2).e ok.1.1.2
    exact big2 rfl rfl rfl rfl rfl rfl (pcmp g.K g.hu pa pb) (ptCmp g.K g.hu pa pb)
  | cmp2 o o' a b c p iha ihb ihc =>
    intro G sc W X g hS ok
    unfold okE at ok
    simp only [Bool.and_eq_true] at ok
    have pa := (iha g hS ok.1.1.2).e ok.1.1.1.1.1
    have pb := (ihb g hS ok.1.2).e ok.1.1.1.1.2
    have pc := (ihc g hS ok.2).e ok.1.1.1.2
    exact big2 rfl rfl rfl rfl rfl rfl (pcmp2 g.K g.hu pa pb pc) (ptCmp2 g.K g.hu pa pb pc)
  | bo and a r p iha ihr =>
    intro G sc W X g hS ok
    unfold okE at ok
    simp only [Bool.and_eq_true] at ok
    have ba := iha g hS ok.1.2
    have br := ihr g hS ok.2
    exact big2 rfl rfl rfl rfl rfl rfl (pbo g.K and r a.src (ev F a) ok.1.1.2 (ba.e ok.1.1.1) fun e he => (br.ai ok.1.1.2 e he).1) (ptBo and ok.1.1.2 (ba.t ok.1.1.1) fun e he => (br.ai ok.1.1.2 e he).2)
  | ife c a b p ihc iha ihb =>
    intro G sc W X g hS ok
    unfold okE at ok
    simp only [Bool.and_eq_true] at ok
    have bc := ihc g hS ok.1.1.2
    have ba := iha g hS ok.1.2
    have bb := ihb g hS ok.2
    exact big2 rfl rfl rfl rfl rfl rfl (pife (bc.t ok.1.1.1.1.1) (ba.e ok.1.1.1.1.2) (bb.e ok.1.1.1.2)) (ptIf (bc.t ok.1.1.1.1.1) (ba.t ok.1.1.1.1.2) (bb.t ok.1.1.1.2))
  | tup es p ih =>
    intro G sc W X g hS ok
    unfold okE at ok
    simp only [Bool.and_eq_true] at ok
    exact big1 g.K rfl rfl rfl rfl rfl rfl rfl rfl (ptup ((ih g hS ok.2).a ok.1))
  | newl l ih =>
    intro G sc W X g hS ok
    unfold okE at ok
    simp only [Bool.and_eq_true] at ok
    have p := newN ((ih g hS ok.2).n ok.1)
    refine big2 rfl rfl rfl rfl rfl rfl p (ptV g.K ?_ p)
    cases l with
    | ldisp _ _ => rfl
    | llist _ _ _ => rfl
    | lc _ _ _ _ _ _ _ => rfl
    | _ => cases ok.1
  | ix a i p iha ihb =>
    intro G sc W X g hS ok
    unfold okE at ok
    simp only [Bool.and_eq_true] at ok
    exact big1 g.K rfl rfl rfl rfl rfl rfl rfl rfl (pix g.K ((iha g hS ok.1.2).e ok.1.1.1) ((ihb g hS ok.2).e ok.1.1.2))
  | slc a lo hi p2 p iha ihl ihh =>
    intro G sc W X g hS ok
    unfold okE at ok
    simp only [Bool.and_eq_true] at ok
    exact big1 g.K rfl rfl rfl rfl rfl rfl rfl rfl (pslc g.K ((iha g hS ok.1.1.2).e ok.1.1.1.1.1) ((ihl g hS ok.1.2).o ok.1.1.1.1.2) ((ihh g hS ok.2).o ok.1.1.1.2))
  | rev a p1 p2 p3 p iha =>
    intro G sc W X g hS ok
    unfold okE at ok
    simp only [Bool.and_eq_true] at ok
    exact big1 g.K rfl rfl rfl rfl rfl rfl rfl rfl (prev g.K ((iha g hS ok.2).e ok.1))
  | att a f x p iha =>
    intro G sc W X g hS ok
    subst hS
    unfold okE at ok
    simp only [Bool.and_eq_true, decide_eq_true_eq] at ok
    exact big1 g.K rfl rfl rfl rfl rfl rfl rfl rfl (patt g ok.1.1.1 ok.1.1.2 ((iha g rfl ok.2).e ok.1.2))
  | call f x px es p ih =>
    intro G sc W X g hS ok
    subst hS
    unfold okE at ok
    simp only [Bool.and_eq_true, decide_eq_true_eq] at ok
    exact big1 g.K rfl rfl rfl rfl rfl rfl rfl rfl (pcall g ok.1.1.1.1 ok.1.1.1.2 ok.1.1.2 ok.1.2 ((ih g rfl ok.2).a ok.1.2))
  | callk f x px es ks p ihe ihk =>
    intro G sc W X g hS ok
    subst hS
    unfold okE at ok
    simp only [Bool.and_eq_true, decide_eq_true_eq] at ok
    obtain ⟨⟨⟨⟨⟨⟨⟨h1, h2⟩, h3⟩, h4⟩, h5⟩, h6⟩, h7⟩, h8⟩ := ok
    exact big1 g.K rfl rfl rfl rfl rfl rfl rfl rfl (pcallk g h1 h2 h3 h4 h5 h6 ((ihe g rfl h7).a h5) ((ihk g rfl h8).k h6))
  | make c x px es p ih =>
    intro G sc W X g hS ok
    subst hS
    unfold okE at ok
    simp only [Bool.and_eq_true, decide_eq_true_eq] at ok
    exact big1 g.K rfl rfl rfl rfl rfl rfl rfl rfl (pmake g ok.1.1.1.1.1 ok.1.1.1.1.2 ok.1.1.1.2 ok.1.1.2 ok.1.2 ((ih g rfl ok.2).a ok.1.2))
  | mth o m x ap es p iho ihe =>
    intro G sc W X g hS ok
    subst hS
    unfold okE at ok
    simp only [Bool.and_eq_true, decide_eq_true_eq] at ok
    obtain ⟨⟨⟨⟨⟨⟨⟨h1, h2⟩, h3⟩, h4⟩, h5⟩, h6⟩, h7⟩, h8⟩ := ok
    exact big1 g.K rfl rfl rfl rfl rfl rfl rfl rfl (pmth g h1 h2 h3 h4 h5 ((iho g rfl h7).e h6) ((ihe g rfl h8).a h5))
  | b1 b e px p ih =>
    intro G sc W X g hS ok
    unfold okE at ok
    simp only [Bool.and_eq_true] at ok
    exact big1 g.K rfl rfl rfl rfl rfl rfl rfl rfl (pB1 g ok.1.1 (.inr trivial) ((ih g hS ok.2).e ok.1.2))
  | bl b l px p ih =>
    intro G sc W X g hS ok
    unfold okE at ok
    simp only [Bool.and_eq_true, Bool.or_eq_true, beq_iff_eq] at ok
    have bi := ih g hS ok.2
    rcases ok.1.2 with h | ⟨h, hb⟩
    · exact big1 g.K rfl rfl rfl rfl rfl rfl rfl rfl (pBL g ok.1.1 (.inl rfl) (src_star l [] _) (newL (bi.n h)))
    · exact big1 g.K rfl rfl rfl rfl rfl rfl rfl rfl (pBL (tr := false) g ok.1.1 (.inr hb) (src_star l [] _) (bi.l h))
  | isi e t px pt p ih =>
    intro G sc W X g hS ok
    unfold okE at ok
    simp only [Bool.and_eq_true] at ok
    exact big1 g.K rfl rfl rfl rfl rfl rfl rfl rfl (pisi g ok.1.1.1 ok.1.1.2 ((ih g hS ok.2).e ok.1.2))
  | join o l ap p iho ihl =>
    intro G sc W X g hS ok
    unfold okE at ok
    simp only [Bool.and_eq_true, Bool.or_eq_true] at ok
    obtain ⟨⟨⟨⟨⟨h1, h2⟩, h3⟩, h4⟩, h5⟩, h6⟩ := ok
    have bl := ihl g hS h6
    rcases h4 with h | h
    · exact big1 g.K rfl rfl rfl rfl rfl rfl rfl rfl (pjoin g.K h1 h2 ((iho g hS h5).e h3) row_star (newL (bl.n h)))
    · exact big1 g.K rfl rfl rfl rfl rfl rfl rfl rfl (pjoin g.K h1 h2 ((iho g hS h5).e h3) row_star (bl.l h))
  | ext o l ap p iho ihl =>
    intro G sc W X g hS ok
    unfold okE at ok
    simp only [Bool.and_eq_true] at ok
    obtain ⟨⟨⟨⟨⟨h1, h2⟩, h3⟩, h4⟩, h5⟩, h6⟩ := ok
    exact big1 g.K rfl rfl rfl rfl rfl rfl rfl rfl (pext g.K h1 h2 ((iho g hS h5).e h3) row_star (newL ((ihl g hS h6).n h4)))
  | bm m o es ap p iho ihe =>
    intro G sc W X g hS ok
    unfold okE at ok
    simp only [Bool.and_eq_true] at ok
    obtain ⟨⟨⟨⟨⟨⟨h1, h2⟩, h3⟩, h4⟩, h5⟩, h6⟩, h7⟩ := ok
    exact big1 g.K (by cases m <;> rfl) rfl rfl rfl rfl rfl rfl rfl (pbm g.K h1 h2 h3 h4 ((iho g hS h6).e h5) ((ihe g hS h7).a h4))
  | refd c f x px scope b pl p ih =>
    intro G sc W X g hS ok
    subst hS
    unfold okE at ok
    simp only [Bool.and_eq_true, decide_eq_true_eq] at ok
    obtain ⟨⟨⟨⟨⟨⟨⟨h1, h2⟩, h3⟩, h4⟩, h5⟩, h6⟩, h7⟩, h8⟩ := ok
    exact big1 g.K rfl rfl rfl rfl rfl rfl rfl rfl (prefd g (g.lm h1) h2 h3 h4 h5 h6 fun g' => (ih g' rfl h8).e h7)
  | anil =>
    intro G sc W X g hS ok
    refine ⟨fun z => no1 rfl z, fun z => no1 rfl z, fun _ => pa_anil, fun _ a ha => (by unfold items at ha; cases ha), fun z => no1 rfl z, fun z => no1 rfl z, fun z => no1 rfl z, fun z => no1 rfl z, fun z => no1 rfl z, fun z => no1 rfl z⟩
  | acons a r iha ihr =>
    intro G sc W X g hS ok
    unfold okE at ok
    simp only [Bool.and_eq_true] at ok
    have ba := iha g hS ok.1.2
    have br := ihr g hS ok.2
    refine ⟨fun z => no1 rfl z, fun z => no1 rfl z, fun _ => pa_acons (ba.e ok.1.1.1) (br.a ok.1.1.2), fun _ b hb => ?_, fun z => no1 rfl z, fun z => no1 rfl z, fun z => no1 rfl z, fun z => no1 rfl z, fun z => no1 rfl z, fun z => no1 rfl z⟩
    unfold items at hb
    rcases List.mem_cons.mp hb with rfl | hb
    · exact ⟨ba.e ok.1.1.1, ba.t ok.1.1.1⟩
    · exact br.ai ok.1.1.2 b hb
  | knil =>
    intro G sc W X g hS ok
    exact ⟨fun z => no1 rfl z, fun z => no1 rfl z, fun z => no1 rfl z, fun z => no1 rfl z, fun _ => pk_knil, fun z => no1 rfl z, fun z => no1 rfl z, fun z => no1 rfl z, fun z => no1 rfl z, fun z => no1 rfl z⟩
  | kcons x e p r ihe ihr =>
    intro G sc W X g hS ok
    unfold okE at ok
    simp only [Bool.and_eq_true] at ok
    exact ⟨fun z => no1 rfl z, fun z => no1 rfl z, fun z => no1 rfl z, fun z => no1 rfl z, fun _ => pk_kcons ((ihe g hS ok.1.2).e ok.1.1.1) ((ihr g hS ok.2).k ok.1.1.2), fun z => no1 rfl z, fun z => no1 rfl z, fun z => no1 rfl z, fun z => no1 rfl z, fun z => no1 rfl z⟩
  | onone =>
    intro G sc W X g hS ok
    refine ⟨fun z => no1 rfl z, fun z => no1 rfl z, fun z => no1 rfl z, fun z => no1 rfl z, fun z => no1 rfl z, fun _ => po_onone, fun _ => .inl rfl, fun z => no1 rfl z, fun z => no1 rfl z, fun z => no1 rfl z⟩
  | osome e ih =>
    intro G sc W X g hS ok
    unfold okE at ok
    simp only [Bool.and_eq_true] at ok
    have b := ih g hS ok.2
    refine ⟨fun z => no1 rfl z, fun z => no1 rfl z, fun z => no1 rfl z, fun z => no1 rfl z, fun z => no1 rfl z, fun _ => po_osome (b.e ok.1), fun _ => .inr ⟨e, rfl, b.t ok.1⟩, fun z => no1 rfl z, fun z => no1 rfl z, fun z => no1 rfl z⟩
  | ldisp es p ih =>
    intro G sc W X g hS ok
    unfold okE at ok
    simp only [Bool.and_eq_true] at ok
    exact bigN rfl rfl rfl rfl rfl rfl (ldispN ((ih g hS ok.2).a ok.1))
  | lval e ih =>
    intro G sc W X g hS ok
    unfold okE at ok
    simp only [Bool.and_eq_true] at ok
    exact bigO rfl rfl rfl rfl rfl rfl (pLval g.K ((ih g hS ok.2).e ok.1))
  | lref e ih =>
    intro G sc W X g hS ok
    unfold okE at ok
    simp only [Bool.and_eq_true] at ok
    exact bigO rfl rfl rfl rfl rfl rfl (pLref g.K ((ih g hS ok.2).e ok.1))
  | llist e px p ih =>
    intro G sc W X g hS ok
    unfold okE at ok
    simp only [Bool.and_eq_true] at ok
    exact bigN rfl rfl rfl rfl rfl rfl (llistN g ok.1.1 ((ih g hS ok.2).e ok.1.2))
  | lc elt tg it cond own scope p ihe ihi ihc =>
    intro G sc W X g hS ok
    unfold okE at ok
    simp only [Bool.and_eq_true, List.all_eq_true, decide_eq_true_eq, Bool.or_eq_true, Bool.not_eq_true'] at ok
    subst hS
    obtain ⟨⟨⟨⟨⟨⟨⟨⟨⟨⟨h1, h2⟩, h3⟩, h4⟩, h4n⟩, h5⟩, h6⟩, h7⟩, h8⟩, h9⟩, h10⟩ := ok
    refine bigN rfl rfl rfl rfl rfl rfl (plc g h6 h4n h4 h5 ((ihi g rfl h8).i h1 tg fun z => ?_) (fun X' g' => ?_) fun X' g' => PE.by fun σ H Q ⟨fr, w⟩ => ⟨_, (ihe (g'.wf fr) rfl h9).e h2, w⟩)
    · rcases h7 with h | h
      · rw [h] at z; cases z
      · exact h
    · refine ptsO ?_
      cases cond with
      | onone => exact .inl rfl
      | osome e =>
        refine .inr ⟨e, rfl, fun fr => ?_⟩
        rcases (ihc (g'.wf fr) rfl h10).c rfl with z | ⟨a, z, q⟩
        · cases z
        · cases z; exact q
      | _ => cases h3
  | iseq e ih =>
    intro G sc W X g hS ok
    unfold okE at ok
    simp only [Bool.and_eq_true] at ok
    exact bigI rfl rfl rfl rfl rfl rfl fun tg _ => pseq g.K ((ih g hS ok.2).e ok.1)
  | irng1 e px p ih =>
    intro G sc W X g hS ok
    unfold okE at ok
    simp only [Bool.and_eq_true] at ok
    exact bigI rfl rfl rfl rfl rfl rfl fun tg _ => prng1 g ok.1.1 ((ih g hS ok.2).e ok.1.2)
  | irng2 a b px p iha ihb =>
    intro G sc W X g hS ok
    unfold okE at ok
    simp only [Bool.and_eq_true] at ok
    exact bigI rfl rfl rfl rfl rfl rfl fun tg _ => prng2 g ok.1.1.1.1 ((iha g hS ok.1.2).e ok.1.1.1.2) ((ihb g hS ok.2).e ok.1.1.2)
  | ienum e px p ih =>
    intro G sc W X g hS ok
    unfold okE at ok
    simp only [Bool.and_eq_true] at ok
    refine bigI rfl rfl rfl rfl rfl rfl fun tg hm => ?_
    cases tg with
    | one _ _ _ => cases hm rfl
    | many l pt => exact penum g ok.1.1 ((ih g hS ok.2).e ok.1.2)
  | _ => intro G sc W X g hS ok; cases ok
end Ms

/-! Statements of the machine in the model. -/
namespace Ms
open PySem PySem.Spec PyProof.Rows L2 Mx

section
variable {G : GL} {F : Cf} {N : List Str} {sc : List (Str × NameKind)} {W : WX} {X : Cx}
/-- an error's end, whatever the slots -/
def wL (W : WX) (n : Nat) : XK := fun c d H => ∀ σ : L2.St, σ.length = n → W c d σ H
theorem Pst.wk {α : Type} {W1 W2 : XK} {ρ : Rho} {H : Hp} {r : Rs α} {P : α → Rho → AH → Hp → Prop} (p : Pst G W1 ρ H r P) (h : ∀ c d H', W1 c d H' → W2 c d H') : Pst G W2 ρ H r P := by
  cases r with
  | ok a h => exact p
  | ex c fs h1 => exact fun ρ' H' e gs p1 k1 hr he xr => h _ _ _ (p ρ' H' e gs p1 k1 hr he xr)
  | no => exact p
def pS (G : GL) (D : Ends) : Fl → Rho → AH → Hp → Prop
  | .nx s, ρ, _, H => ∀ σ, SR G.K ρ H s σ → D.nx σ H
  | .bk s, ρ, _, H => ∀ σ, SR G.K ρ H s σ → D.bk σ H
  | .ct s, ρ, _, H => ∀ σ, SR G.K ρ H s σ → D.ct σ H
  | .rt d, ρ, _, H => ∀ v, R G.K ρ H d v → D.rt v H
def rdW (G : GL) (Wk : XK) {α : Type} (m : M α) (σ : L2.St) (H : Hp) (P : α → Rho → AH → Hp → Prop) : Prop :=
  ∃ ρ ds h, SR G.K ρ H ds σ ∧ HR G ρ h H ∧ Pst G Wk ρ H (m ds h) P
def tS (G : GL) (W : WX) (n : Nat) (m : M Fl) : TS := fun D σ H => rdW G (wL W n) m σ H (pS G D)
theorem PS.by3 {e : Stmt} {t' : TS} (h : ∀ D σ H, X.env.scope.kind = .function → σ.length = X.N.length → t' D σ H → ∃ t, PS X e t ∧ t D σ H) : PS X e t' := ⟨fun pins s σ H D I w => by
  obtain ⟨t, p, q⟩ := h D σ H I.ok.kind I.len w
  exact p.run pins s σ H D I q⟩
/-- an expression first, then what follows -/
theorem oneW {β : Type} {n : Nat} {ma : M D} {f : Sl → D → AH → Rs β} {P : β → Rho → AH → Hp → Prop} {σ : L2.St} {H : Hp} {R1 : V → Hp → Prop} (hn : σ.length = n) (h : rdW G (wL W n) (fun s h => (ma s h).bnd (f s)) σ H P)
    (k : ∀ ρ ds x h' H' v, SR G.K ρ H' ds σ → HR G ρ h' H' → R G.K ρ H' x v → Pst G (wL W n) ρ H' (f ds x h') P → R1 v H') : tE G W ma σ H R1 := by
  obtain ⟨ρ, ds, h0, sr, hr, p⟩ := h
  exact ⟨ρ, ds, h0, sr, hr, (p.bnd.mono fun a ρ' h' H' pre kp hr' p' v rv => k ρ' ds a h' H' v (sr.mono pre kp) hr' rv p').wk fun c d H' w => w σ hn⟩
theorem rowW {β : Type} {n : Nat} {ma : M (List D)} {f : Sl → List D → AH → Rs β} {P : β → Rho → AH → Hp → Prop} {σ : L2.St} {H : Hp} {R1 : List V → Hp → Prop} (hn : σ.length = n) (h : rdW G (wL W n) (fun s h => (ma s h).bnd (f s)) σ H P)
    (k : ∀ ρ ds xs h' H' vs, SR G.K ρ H' ds σ → HR G ρ h' H' → RL G.K ρ H' xs vs → Pst G (wL W n) ρ H' (f ds xs h') P → R1 vs H') : tA G W ma σ H R1 := by
  obtain ⟨ρ, ds, h0, sr, hr, p⟩ := h
  exact ⟨ρ, ds, h0, sr, hr, (p.bnd.mono fun a ρ' h' H' pre kp hr' p' v rv => k ρ' ds a h' H' v (sr.mono pre kp) hr' rv p').wk fun c d H' w => w σ hn⟩
theorem testW {β : Type} {n : Nat} {ma : M Bool} {f : Sl → Bool → AH → Rs β} {P : β → Rho → AH → Hp → Prop} {σ : L2.St} {H : Hp} {R1 : Bool → Hp → Prop} (hn : σ.length = n) (h : rdW G (wL W n) (fun s h => (ma s h).bnd (f s)) σ H P)
    (k : ∀ ρ ds x h' H', SR G.K ρ H' ds σ → HR G ρ h' H' → Pst G (wL W n) ρ H' (f ds x h') P → R1 x H') : tT G W ma σ H R1 := by
  obtain ⟨ρ, ds, h0, sr, hr, p⟩ := h
  exact ⟨ρ, ds, h0, sr, hr, (p.bnd.mono fun a ρ' h' H' pre kp hr' p' => k ρ' ds a h' H' (sr.mono pre kp) hr' p').wk fun c d H' w => w σ hn⟩
/-! ### small ones -/
theorem sPass {p : Pos} : PS X (S.pas p).src (tS G W N.length (ex F xf (.pas p))) := PS.by fun D σ H ⟨ρ, ds, h, sr, hr, q⟩ => ⟨_, ps_pass, Pst.here q hr σ sr⟩
theorem sBrk {p : Pos} : PS X (S.brk p).src (tS G W N.length (ex F xf (.brk p))) := PS.by fun D σ H ⟨ρ, ds, h, sr, hr, q⟩ => ⟨_, ps_break, Pst.here q hr σ sr⟩
theorem sCnt {p : Pos} : PS X (S.cnt p).src (tS G W N.length (ex F xf (.cnt p))) := PS.by fun D σ H ⟨ρ, ds, h, sr, hr, q⟩ => ⟨_, ps_continue, Pst.here q hr σ sr⟩
theorem sRetn {p : Pos} : PS X (S.retn p).src (tS G W N.length (ex F xf (.retn p))) := PS.by fun D σ H ⟨ρ, ds, h, sr, hr, q⟩ => ⟨_, ps_retN, Pst.here q hr _ R.ofNon⟩
theorem sRet (g : GX G F N sc W X) {e : E} {p : Pos} (ha : PE X e.src (tE G W (ev F e))) : PS X (S.ret e p).src (tS G W N.length (ex F xf (.ret e p))) :=
  PS.by3 fun D σ H hk hl w => ⟨_, ps_ret ha, oneW (by rw [hl, g.hN]) w fun ρ ds x h' H' v sr hr r q => q.here hr v r⟩
/-- not a comprehension -/
def notLc : E → Bool
  | .newl (.lc _ _ _ _ _ _ _) => false
  | _ => true
theorem notLc_ok {e : E} (h : notLc e = true) (he : isExp e = true) (hn : ∀ l, e = .newl l → isNew l = true) (t : Option Expr) (l : Nat) (env : Env) : swapsWith e.src t l env = pure false := by
  cases e with
  | newl l =>
    have := hn l rfl
    cases l with
    | ldisp _ _ => rfl
    | llist _ _ _ => rfl
    | lc _ _ _ _ _ _ _ => cases h
    | _ => cases this
  | b1 b _ _ _ => cases b <;> rfl
  | bl b _ _ _ => cases b <;> rfl
  | var _ _ _ => rfl
  | cst _ _ => rfl
  | glo _ _ _ => rfl
  | bin _ _ _ _ => rfl
  | neg _ _ => rfl
  | not _ _ => rfl
  | cmp _ _ _ _ => rfl
  | cmp2 _ _ _ _ _ _ => rfl
  | bo _ _ _ _ => rfl
  | ife _ _ _ _ => rfl
  | tup _ _ => rfl
  | ix _ _ _ => rfl
  | slc _ _ _ _ _ => rfl
  | rev _ _ _ _ _ => rfl
  | att _ _ _ _ => rfl
  | call _ _ _ _ _ => rfl
  | make _ _ _ _ _ => rfl
  | mth _ _ _ _ _ _ => rfl
  | isi _ _ _ _ _ => rfl
  | join _ _ _ _ => rfl
  | ext _ _ _ _ => rfl
  | bm _ _ _ _ _ => rfl
  | refd _ _ _ _ _ _ _ _ => rfl
  | callk _ _ _ _ _ _ => rfl
  | _ => cases he
/-- an expression that stands for itself -/
def solid : E → Bool
  | .newl l => isNew l
  | e => isExp e
theorem solid_exp {e : E} (h : solid e = true) : isExp e = true := by
  cases e <;> first | rfl | exact h
theorem solid_new {e : E} (h : solid e = true) : ∀ l, e = .newl l → isNew l = true := fun l z => by subst z; exact h
theorem sExp (g : GX G F N sc W X) {e : E} {p : Pos} (h1 : notLc e = true) (h2 : solid e = true) (ha : PE X e.src (tE G W (ev F e))) : PS X (S.exp e p).src (tS G W N.length (ex F xf (.exp e p))) :=
  PS.by3 fun D σ H hk hl w => ⟨_, ps_expr ha (notLc_ok h1 (solid_exp h2) (solid_new h2) _ _ _), oneW (f := fun s _ h1 => Rs.ok (Fl.nx s) h1) (by rw [hl, g.hN]) w fun ρ ds x h' H' v sr hr r q => q.here hr σ sr⟩
theorem sSet (g : GX G F N sc W X) {i : Nat} {x : Str} {px p : Pos} {e : E} (h0 : tg1 N sc i x = true) (h1 : swapsWith e.src (some (.Name x px)) p.line X.env = pure false) (ha : PE X e.src (tE G W (ev F e))) : PS X (S.set i x px e p).src (tS G W N.length (ex F xf (.set i x px e p))) :=
  PS.by3 fun D σ H hk hl w => by
    unfold tg1 at h0
    rw [Bool.and_eq_true] at h0
    obtain ⟨l1, l2⟩ := g.sco.locs h0.2
    exact ⟨_, ps_set (by rw [g.hN]; exact g.nd) (by rw [g.hN]; exact of_decide_eq_true h0.1) l1 ha h1 l2, oneW (f := fun s x h1 => Rs.ok (Fl.nx (asg1 s i x)) h1) (by rw [hl, g.hN]) w fun ρ ds x h' H' v sr hr r q => q.here hr _ (sr.set r)⟩
theorem sUnp (g : GX G F N sc W X) {tg : Tg} {e : E} {p : Pos} (h0 : tgOk N sc tg = true) (h1 : isMany tg = true) (h2 : solid e = true) (h3 : ∀ es p, e ≠ .tup es p) (ha : PE X e.src (tE G W (ev F e))) : PS X (S.unp tg e p).src (tS G W N.length (ex F xf (.unp tg e p))) := by
  have e1 : swapsWithSole [tg.src] e.src p.line X.env = pure false := by
    cases tg with
    | one _ _ _ => cases h1
    | many l pt =>
      show swapsWith e.src (some (Tg.many l pt).src) p.line X.env = pure false
      cases e with
      | newl l =>
        cases l with
        | ldisp _ _ => rfl
        | llist _ _ _ => rfl
        | lc _ _ _ _ _ _ _ => rfl
        | _ => cases h2
      | _ => exact notLc_ok rfl (solid_exp h2) (fun l z => by cases z) _ _ _
  have e2 : swappedStores [tg.src] e.src X.env = pure none := by
    cases tg with
    | one _ _ _ => cases h1
    | many l pt =>
      cases e with
      | newl l =>
        cases l with
        | ldisp _ _ => rfl
        | llist _ _ _ => rfl
        | lc _ _ _ _ _ _ _ => rfl
        | _ => cases h2
      | tup es p => exact absurd rfl (h3 es p)
      | b1 b _ _ _ => cases b <;> rfl
      | bl b _ _ _ => cases b <;> rfl
      | var _ _ _ => rfl
      | cst _ _ => rfl
      | glo _ _ _ => rfl
      | bin _ _ _ _ => rfl
      | neg _ _ => rfl
      | not _ _ => rfl
      | cmp _ _ _ _ => rfl
      | cmp2 _ _ _ _ _ _ => rfl
      | bo _ _ _ _ => rfl
      | ife _ _ _ _ => rfl
      | ix _ _ _ => rfl
      | slc _ _ _ _ _ => rfl
      | rev _ _ _ _ _ => rfl
      | att _ _ _ _ => rfl
      | call _ _ _ _ _ => rfl
      | make _ _ _ _ _ => rfl
      | mth _ _ _ _ _ _ => rfl
      | isi _ _ _ _ _ => rfl
      | join _ _ _ _ => rfl
      | ext _ _ _ _ => rfl
      | bm _ _ _ _ _ => rfl
      | refd _ _ _ _ _ _ _ _ => rfl
      | callk _ _ _ _ _ _ => rfl
      | _ => cases h2
  have e3 : (assignEach [tg.src] X.env).map (·.2) = [assign tg.src X.env] := by
    cases tg <;> rfl
  refine PS.by3 fun D σ H hk hl w => ⟨_, ps_asg ha (pgD g h0) e1 e2 e3, oneW (f := fun s x h1 => match tg.set x s with
    | some s1 => Rs.ok (Fl.nx s1) h1
    | none => .no) (by rw [hl, g.hN]) w fun ρ ds x h' H' v sr hr r q => ?_⟩
  split at q
  · rename_i s1 hs
    refine ⟨ρ, x, ds, s1, by rw [g.K]; exact r, by rw [g.K]; exact sr, hs, fun σ2 sr2 _ => ?_⟩
    rw [g.K] at sr2
    exact q.here hr σ2 sr2
  · exact q.elim
/-! ### fields -/
theorem ins_put {Wk : XK} {Dd : Ends} {ρ : Rho} {h : AH} {H : Hp} {l : Nat} {a : Addr} {c f : Nat} {fs : Fs} {gs : List (Str × V)} {dx : Addr} {x : Str} {d : D} {v : V} {s : Sl} {σ : L2.St} (gf : GF G) (hr : HR G ρ h H) (sr : SR G.K ρ H s σ) (ea : ρ[l]? = some a) (hx : h[l]? = some (.ins c fs)) (h1 : H a = some (.ins (G.cA c) dx gs))
    (fr : FR G ρ H fs gs) (hi : (G.P.ini c).isSome = true) (hm : ∀ p ∈ fs, G.P.md c p.1 = none) (hn : G.nms[f]? = some x) (hmf : G.P.md c f = none) (rv : R G.K ρ H d v)
    (q : Pst G Wk ρ H (.ok (.nx s) (put h l (.ins c (fput f d fs)))) (pS G Dd)) : Dd.nx σ (upd H a (.ins (G.cA c) dx (putF x v gs))) := by
  have w : Wr (H a) := .inr ⟨_, dx, gs, h1⟩
  have k : Kp H (upd H a (.ins (G.cA c) dx (putF x v gs))) := Kp.upd w.notup
  have hp : ∀ p ∈ fput f d fs, G.P.md c p.1 = none := by
    intro p
    have : ∀ fs : Fs, p ∈ fput f d fs → p.1 = f ∨ p ∈ fs := by
      intro fs
      induction fs with
      | nil => intro h; unfold fput at h; rw [List.mem_singleton] at h; left; rw [h]
      | cons y r ih =>
        intro h
        obtain ⟨i, y⟩ := y
        unfold fput at h
        split at h
        · rename_i e
          rcases List.mem_cons.mp h with e2 | h
          · left; rw [e2, e]
          · right; exact List.mem_cons_of_mem _ h
        · rcases List.mem_cons.mp h with e2 | h
          · right; rw [e2]; exact List.mem_cons_self
          · rcases ih h with z | z
            · exact .inl z
            · exact .inr (List.mem_cons_of_mem _ z)
    intro hp
    rcases this fs hp with e | z
    · rw [e]; exact hmf
    · exact hm p z
  exact q ρ _ (List.prefix_refl _) k (hr.put ea hx w rfl rfl ⟨dx, _, upd_same, (fr.put gf.nnd hn rv).mono (List.prefix_refl _) k, hi, hp⟩) σ (sr.mono (List.prefix_refl _) k)
theorem sFld' (g : GX G F N sc W X) {o e : E} {f : Nat} {x : Str} {pf p : Pos} (h0 : G.nms[f]? = some x) (h1 : notLc e = true ∨ True) (h2 : solid e = true) (ho : PE X o.src (tE G W (ev F o))) (he : PE X e.src (tE G W (ev F e))) : PS X (S.fld o f x pf e p).src (tS G W N.length (ex F xf (.fld o f x pf e p))) := by
  have e1 : swapsWith e.src (some (.Attribute o.src x pf)) p.line X.env = pure false := by
    cases e with
    | newl l =>
      cases l with
      | ldisp _ _ => rfl
      | llist _ _ _ => rfl
      | lc _ _ _ _ _ _ _ => rfl
      | _ => cases h2
    | _ => exact notLc_ok rfl (solid_exp h2) (fun l z => by cases z) _ _ _
  refine PS.by3 fun D σ H hk hl w => ⟨_, ps_fld ho he e1, ?_⟩
  have hn : σ.length = N.length := by rw [hl, g.hN]
  refine oneW (β := Fl) (f := fun s y h1 => (ev F o s h1).bnd fun (x : Mx.D) h2 => match x with
    | .ref l => match h2[l]? with
      | some (.ins c fs) => if fs.length < 900 ∧ F.md c f = none then .ok (.nx s) (put h2 l (.ins c (fput f y fs))) else .no
      | _ => .no
    | _ => .no) (P := pS G D) hn w fun ρ ds y h' H' v sr hr r q => ?_
  refine ⟨ρ, ds, h', sr, hr, (q.bnd.mono fun x ρ2 h2 H2 p2 k2 hr2 q2 v2 r2 => ?_).wk fun c d H' w => w σ hn⟩
  cases x with
  | ref l =>
    obtain ⟨a, rfl, ea⟩ := r2.ref
    have q2 : Pst G (wL W N.length) ρ2 H2 (match h2[l]? with
      | some (.ins c fs) => if fs.length < 900 ∧ F.md c f = none then .ok (.nx ds) (put h2 l (.ins c (fput f y fs))) else .no
      | _ => .no) (pS G D) := q2
    split at q2
    · rename_i c fs hx
      obtain ⟨⟨hz, hmd⟩, q2⟩ := Pst.ite q2
      obtain ⟨dx, gs, h3, h4, h5, h6⟩ := hr2.ins ea hx
      rw [g.md] at hmd
      obtain ⟨i, hi⟩ := Option.isSome_iff_exists.mp h5
      exact ⟨a, _, dx, gs, rfl, h3, by rw [g.K]; exact (g.gf.ins c i hi).1, by rw [g.K]; exact g.gf.nat c i f _ hi hmd h0, by rw [h4.length]; omega, ins_put g.gf hr2 (sr.mono p2 k2) ea hx h3 h4 h5 h6 h0 hmd (r.mono p2 k2) q2⟩
    · exact q2.elim
  | _ => exact q2.elim
/-- op= -/
theorem aug_ok (g : X.K = G.K) (sb : Bool) : PIp X (asOp sb) (r2M G (augop sb)) := by
  intro pins s σ H x y v u Q I r1 r2 ⟨ρ, h, dx, dy, Wk, hr, q1, q2, p⟩
  cases dx with
  | int i =>
    cases dy with
    | int j =>
      cases sb with
      | true => exact ip_sub pins s σ H x y v u Q I r1 r2 ⟨i, j, q1.int, q2.int, hereV hr p (R.ofInt _)⟩
      | false => exact ip_add pins s σ H x y v u Q I r1 r2 ⟨i, j, q1.int, q2.int, hereV hr p (R.ofInt _)⟩
    | _ => exact p.elim
  | str a =>
    cases dy with
    | str b =>
      have p : Pst G Wk ρ H (if sb = false ∧ a.length + b.length ≤ SZ then .ok (.str (a ++ b)) h else .no) (pV G Q) := p
      obtain ⟨⟨hs, hz⟩, p2⟩ := Pst.ite p
      subst hs
      refine iop_add_str pins s σ H x y v u Q I r1 r2 ⟨sS a, sS b, q1.str, q2.str, by rw [sS_len, sS_len, ← SZ_eq]; exact hz, ?_⟩
      rw [sS_app]
      exact hereV hr p2 (R.ofStr _)
    | _ => exact p.elim
  | _ => exact p.elim
end
end Ms

/-! Statements: op=, subscripts, pairs, if, while, for, a name set to a comprehension. -/
namespace Ms
open PySem PySem.Spec PyProof.Rows L2 Mx

section
variable {G : GL} {F : Cf} {N : List Str} {sc : List (Str × NameKind)} {W : WX} {X : Cx} {xf : Nat → Option (List Nat)}
theorem sFau (g : GX G F N sc W X) {o e : E} {f : Nat} {x : Str} {pf p : Pos} {sb : Bool} (h0 : G.nms[f]? = some x) (ho : PE X o.src (tE G W (ev F o))) (he : PE X e.src (tE G W (ev F e))) : PS X (S.fau o f x pf sb e p).src (tS G W N.length (ex F xf (.fau o f x pf sb e p))) := by
  refine PS.by3 fun Dd σ H hk hl w => ⟨_, ps_fldaug ho he (fun pins s σ H x y u v Q I rx ry q => aug_ok g.K sb pins s σ H x y u v Q I rx ry q), ?_⟩
  have hn : σ.length = N.length := by rw [hl, g.hN]
  refine oneW (β := Fl) (f := fun s (x : D) h1 => match x with
    | .ref l => match h1[l]? with
      | some (.ins c fs) => match fget fs f with
        | some v => (ev F e s h1).bnd fun y h2 => (augop sb v y h2).bnd fun z h3 => match h3[l]? with
          | some (.ins c' fs') => if fs'.length < 900 ∧ c' = c then .ok (.nx s) (put h3 l (.ins c' (fput f z fs'))) else .no
          | _ => .no
        | none => .no
      | _ => .no
    | _ => .no) (P := pS G Dd) hn w fun ρ ds d h' H' v sr hr r q => ?_
  cases d with
  | ref l =>
    obtain ⟨a, rfl, ea⟩ := r.ref
    have q : Pst G (wL W N.length) ρ H' (match h'[l]? with
      | some (.ins c fs) => match fget fs f with
        | some v => (ev F e ds h').bnd fun y h2 => (augop sb v y h2).bnd fun z h3 => match h3[l]? with
          | some (.ins c' fs') => if fs'.length < 900 ∧ c' = c then .ok (.nx ds) (put h3 l (.ins c' (fput f z fs'))) else .no
          | _ => .no
        | none => .no
      | _ => .no) (pS G Dd) := q
    split at q
    · rename_i c fs hx
      split at q
      · rename_i d hd
        obtain ⟨dx, gs, h3, h4, h5, h6⟩ := hr.ins ea hx
        obtain ⟨u, e1, e2⟩ := h4.get g.gf.nnd h0 hd
        obtain ⟨i, hi⟩ := Option.isSome_iff_exists.mp h5
        have hmf : G.P.md c f = none := h6 _ (fget_mem hd)
        have hna : NoAttr X.K (G.cA c) x := by rw [g.K]; exact g.gf.nat c i f _ hi hmf h0
        have hcl : Cls X.K (G.cA c) := by rw [g.K]; exact (g.gf.ins c i hi).1
        refine ⟨a, G.cA c, dx, gs, u, rfl, h3, hcl, hna, e1, ρ, ds, h', sr, hr, (q.bnd.mono fun y ρ2 h2 H2 p2 k2 hr2 q2 v2 r2 => ?_).wk fun c d H' w => w σ hn⟩
        refine ⟨ρ2, h2, d, y, wL W N.length, hr2, e2.mono p2 k2, r2, q2.bnd.mono fun z ρ3 h3' H3 p3 k3 hr3 q3 v3 r3 => ?_⟩
        have q3 : Pst G (wL W N.length) ρ3 H3 (match h3'[l]? with
          | some (.ins c' fs') => if fs'.length < 900 ∧ c' = c then .ok (.nx ds) (put h3' l (.ins c' (fput f z fs'))) else .no
          | _ => .no) (pS G Dd) := q3
        split at q3
        · rename_i c' fs' hx'
          obtain ⟨⟨hz, hc⟩, q4⟩ := Pst.ite q3
          subst hc
          have ea3 := pre_get (p2.trans p3) ea
          obtain ⟨dx', gs', h3, h4, h5, h6⟩ := hr3.ins ea3 hx'
          exact ⟨dx', gs', h3, by rw [h4.length]; omega, ins_put g.gf hr3 (sr.mono (p2.trans p3) (k2.trans k3)) ea3 hx' h3 h4 h5 h6 h0 hmf r3 q4⟩
        · exact q3.elim
      · exact q.elim
    · exact q.elim
  | _ => exact q.elim
theorem sAug (g : GX G F N sc W X) {i : Nat} {x : Str} {px p : Pos} {sb : Bool} {e : E} (h0 : tg1 N sc i x = true) (he : PE X e.src (tE G W (ev F e))) : PS X (S.aug i x px sb e p).src (tS G W N.length (ex F xf (.aug i x px sb e p))) := by
  unfold tg1 at h0
  rw [Bool.and_eq_true] at h0
  obtain ⟨l1, l2⟩ := g.sco.locs h0.2
  refine PS.by3 fun Dd σ H hk hl w => ⟨_, ps_aug (by rw [g.hN]; exact g.nd) (by rw [g.hN]; exact of_decide_eq_true h0.1) l1 he (aug_ok g.K sb) l2, ?_⟩
  have hn : σ.length = N.length := by rw [hl, g.hN]
  obtain ⟨ρ, ds, h, sr, hr, q⟩ := w
  have q : Pst G (wL W N.length) ρ H (match sget ds i with
    | some v => (ev F e ds h).bnd fun y h1 => (augop sb v y h1).bnd fun z h2 => .ok (.nx (asg1 ds i z)) h2
    | none => .no) (pS G Dd) := q
  split at q
  · rename_i d hd
    obtain ⟨v, e1, e2⟩ := sr.2 i d hd
    refine ⟨v, e1, ρ, ds, h, sr, hr, (q.bnd.mono fun y ρ2 h2 H2 p2 k2 hr2 q2 v2 r2 => ?_).wk fun c d H' w => w σ hn⟩
    refine ⟨ρ2, h2, d, y, wL W N.length, hr2, e2.mono p2 k2, r2, q2.bnd.mono fun z ρ3 h3 H3 p3 k3 hr3 q3 v3 r3 => ?_⟩
    exact q3.here hr3 _ ((sr.mono (p2.trans p3) (k2.trans k3)).set r3)
  · exact q.elim
theorem src_assign (i o : Expr) (e : E) (ps : Pos) (env : Env) (v : Value) : assign (.Subscript o e.src ps) env v = (do
      let ov ← holding [v] (eval o env)
      let iv ← holding [v, ov] (eval e.src env)
      standAt ps
      holding [v, ov, iv] (setItem ov iv v)
      release [v, ov, iv] []) := by
  induction e with
  | newl l ih => exact ih
  | lval e ih => exact ih
  | lref e ih => exact ih
  | iseq e ih => exact ih
  | _ => rfl
theorem src_slotE (e : E) (o : Expr) (ps : Pos) (v : E) (l : Nat) (env : Env) (h : solid v = true) : swapsWithSole [.Subscript o e.src ps] v.src l env = pure false := by
  show swapsWith v.src (some (.Subscript o e.src ps)) l env = pure false
  cases v with
  | newl l =>
    cases l with
    | ldisp _ _ => rfl
    | llist _ _ _ => rfl
    | lc _ _ _ _ _ _ _ => rfl
    | _ => cases h
  | _ => exact notLc_ok rfl (solid_exp h) (fun l z => by cases z) _ _ _
theorem sSub (g : GX G F N sc W X) {o i e : E} {ps p : Pos} (h2 : solid e = true) (ho : PE X o.src (tE G W (ev F o))) (hi : PE X i.src (tE G W (ev F i))) (he : PE X e.src (tE G W (ev F e))) : PS X (S.sub o i ps e p).src (tS G W N.length (ex F xf (.sub o i ps e p))) := by
  refine PS.by3 fun Dd σ H hk hl w => ⟨_, ps_asg he (pg_sub ho hi set_list fun v => src_assign (.Name "" ps) o.src i ps X.env v) (src_slotE i o.src ps e _ _ h2) rfl rfl, ?_⟩
  have hn : σ.length = N.length := by rw [hl, g.hN]
  refine oneW (β := Fl) (f := fun s d h1 => (ev F o s h1).bnd fun x h2 => (ev F i s h2).bnd fun y h3 => (setop x y d h3).bnd fun _ h4 => .ok (.nx s) h4) (P := pS G Dd) hn w fun ρ ds d h' H' v sr hr r q => ?_
  refine ⟨ρ, ds, h', sr, hr, (q.bnd.mono fun x ρ2 h2 H2 p2 k2 hr2 q2 v2 r2 => ?_).wk fun c d H' w => w σ hn⟩
  refine ⟨ρ2, ds, h2, sr.mono p2 k2, hr2, (q2.bnd.mono fun y ρ3 h3 H3 p3 k3 hr3 q3 v3 r3 => ?_).wk fun c d H' w => w σ hn⟩
  cases x with
  | ref l =>
    obtain ⟨a, rfl, ea⟩ := r2.ref
    have ea3 := pre_get p3 ea
    have q3 : Pst G (wL W N.length) ρ3 H3 ((match h3[l]? with
      | some (.lst xs) => match (generalizing := false) y with
        | .int i => match ixn xs.length i with
          | some j => Rs.ok () (put h3 l (.lst (xs.set j d)))
          | none => .no
        | _ => .no
      | _ => .no).bnd fun _ h4 => .ok (.nx ds) h4) (pS G Dd) := q3
    split at q3
    · rename_i xs hx
      cases y with
      | int i =>
        have q3 : Pst G (wL W N.length) ρ3 H3 ((match ixn xs.length i with
          | some j => Rs.ok () (put h3 l (.lst (xs.set j d)))
          | none => .no).bnd fun _ h4 => .ok (.nx ds) h4) (pS G Dd) := q3
        split at q3
        · rename_i j hj
          have q3 : Pst G (wL W N.length) ρ3 H3 (.ok (.nx ds) (put h3 l (.lst (xs.set j d)))) (pS G Dd) := q3
          obtain ⟨vs, h1, rl⟩ := hr3.lst ea3 hx
          refine ⟨a, vs, i, j, rfl, r3.int, h1, by rw [rl.length]; exact hj, ?_⟩
          have wr : Wr (H3 a) := .inl ⟨vs, h1⟩
          have k : Kp H3 (upd H3 a (.lst (vs.set j v))) := Kp.upd wr.notup
          exact q3 ρ3 _ (List.prefix_refl _) k (hr3.put ea3 hx wr rfl rfl ⟨_, upd_same, (rl.set j (r.mono (p2.trans p3) (k2.trans k3))).mono (List.prefix_refl _) k⟩) σ ((sr.mono (p2.trans p3) (k2.trans k3)).mono (List.prefix_refl _) k)
        · exact q3.elim
      | _ => exact q3.elim
    · exact q3.elim
  | _ => exact q3.elim
/-! ### if, while, for -/
theorem sIf (g : GX G F N sc W X) {c : E} {a b : S} {p : Pos} (hc : PT X c.src (tT G W (evt F c))) (ha : PSs X a.srcs (tS G W N.length (ex F xf a))) (hb : PSs X b.srcs (tS G W N.length (ex F xf b))) : PS X (S.ife c a b p).src (tS G W N.length (ex F xf (.ife c a b p))) :=
  PS.by3 fun Dd σ H hk hl w => ⟨_, ps_if hc ha hb, testW (f := fun s k h1 => if k = true then ex F xf a s h1 else ex F xf b s h1) (P := pS G Dd) (by rw [hl, g.hN]) w fun ρ ds k h' H' sr hr q => by
    cases k with
    | true => exact ⟨ρ, ds, h', sr, hr, q⟩
    | false => exact ⟨ρ, ds, h', sr, hr, q⟩⟩
theorem PT.len {e : Expr} {t : TT} (p : PT X e t) : PT X e fun σ H Q => σ.length = X.N.length → t σ H Q := ⟨fun pins s σ H Q I w => p.run pins s σ H Q I (w I.len)⟩
theorem sWhl (g : GX G F N sc W X) (hp : PassesOwn (model X.prog X.w) X.A X.env X.xe) {c : E} {b : S} {p : Pos} (hc : PT X c.src (tT G W (evt F c))) (hb : PSs X b.srcs (tS G W N.length (ex F xf b))) : PS X (S.whl c b p).src (tS G W N.length (ex F xf (.whl c b p))) := by
  refine PS.by fun Dd σ H w => ⟨_, ps_while hp (PT.len hc) hb, ?_⟩
  refine ⟨fun m σ' H' => tS G W N.length (whM (evt F c) (ex F xf b) m) Dd σ' H', ⟨WF, w⟩, ?_⟩
  rintro m σ1 H1 w1 hn1
  rw [g.hN] at hn1
  cases m with
  | zero => obtain ⟨ρ, ds, h, sr, hr, q⟩ := w1; exact q.elim
  | succ m =>
    refine testW (β := Fl) (f := fun s k h1 => if k = true then (ex F xf b s h1).bnd fun f h2 => match f with
      | .nx s2 => whM (evt F c) (ex F xf b) m s2 h2
      | .ct s2 => whM (evt F c) (ex F xf b) m s2 h2
      | .bk s2 => .ok (.nx s2) h2
      | .rt d => .ok (.rt d) h2
    else .ok (.nx s) h1) (P := pS G Dd) hn1 w1 fun ρ ds k h' H' sr hr q => ?_
    cases k with
    | false =>
      rw [if_neg Bool.false_ne_true] at q ⊢
      exact q.here hr σ1 sr
    | true =>
      rw [if_pos rfl] at q ⊢
      refine ⟨fun σ' H' => tS G W N.length (whM (evt F c) (ex F xf b) m) Dd σ' H', fun σ' H' z => ⟨m, Nat.lt_succ_self _, z⟩, ρ, ds, h', sr, hr, q.bnd.mono fun f ρ2 h2 H2 p2 k2 hr2 q2 => ?_⟩
      cases f with
      | nx s2 => exact fun σ' sr2 => ⟨ρ2, s2, h2, sr2, hr2, q2⟩
      | ct s2 => exact fun σ' sr2 => ⟨ρ2, s2, h2, sr2, hr2, q2⟩
      | bk s2 => exact fun σ' sr2 => q2.here hr2 σ' sr2
      | rt d => exact fun v r => q2.here hr2 v r
theorem sLoop (g : GX G F N sc W X) (hp : PassesOwn (model X.prog X.w) X.A X.env X.xe) {tg : Tg} {it : E} {b : S} {p : Pos} (ht : tgOk N sc tg = true) (hi : PI X tg.src it.src (tI G W (evi F it))) (hb : PSs X b.srcs (tS G W N.length (ex F xf b))) : PS X (S.loop tg it b p).src (tS G W N.length (ex F xf (.loop tg it b p))) := by
  refine PS.by3 fun Dd σ H hk hl w => ⟨_, ps_for hp g.calm hi (pgD g ht) hb (src_fold it X.env), ?_⟩
  have hn : σ.length = N.length := by rw [hl, g.hN]
  obtain ⟨ρ, ds, h, sr, hr, q⟩ := w
  have q : Pst G (wL W N.length) ρ H ((evi F it ds h).bnd fun w h1 => foM tg.set (ex F xf b) w.2 w.1 ds h1) (pS G Dd) := q
  refine ⟨ρ, ds, h, sr, hr, (q.bnd.mono fun w ρ1 h1 H1 p1 k1 hr1 q1 hg1 J hJ => ?_).wk fun c d H' w => w σ hn⟩
  refine ⟨fun i m σ2 H2 => m = w.1.length - i ∧ i ≤ w.1.length ∧ ∃ ρ2 ds2 h2, ρ1 <+: ρ2 ∧ Kp H1 H2 ∧ SR G.K ρ2 H2 ds2 σ2 ∧ HR G ρ2 h2 H2 ∧ Pst G (wL W N.length) ρ2 H2 (foM tg.set (ex F xf b) w.2 (w.1.drop i) ds2 h2) (pS G Dd), ⟨w.1.length, rfl, Nat.zero_le _, ρ1, ds, h1, List.prefix_refl _, Kp.refl _, sr.mono p1 k1, hr1, q1⟩, ?_⟩
  rintro i m σ2 H2 ⟨em, hi, ρ2, ds2, h2, p2, k2, sr2, hr2, q2⟩
  have hg : grd w.2 h2 = true := by
    cases e : w.1.drop i with
    | nil =>
      rw [e] at q2
      unfold foM at q2
      exact (Pst.ite q2).1
    | cons x xs =>
      rw [e] at q2
      unfold foM at q2
      exact (Pst.ite q2).1
  by_cases hlt : i < w.1.length
  case neg =>
    have ei : i = w.1.length := by omega
    rw [ei, List.drop_length] at q2
    unfold foM at q2
    obtain ⟨_, q2⟩ := Pst.ite q2
    left
    rw [ei]
    exact ⟨hJ.stop G.fr ρ2 h2 H2 p2 k2 hr2 hg, q2.here hr2 σ2 sr2⟩
  case pos =>
    right
    have hdrop : w.1.drop i = w.1[i] :: w.1.drop (i + 1) := List.drop_eq_getElem_cons hlt
    rw [hdrop] at q2
    unfold foM at q2
    obtain ⟨_, q2⟩ := Pst.ite q2
    refine ⟨hJ.go i G.fr ρ2 h2 H2 hlt p2 k2 hr2 hg, fun σ' H' => i + 1 ≤ w.1.length ∧ ∃ ρ2 ds2 h2, ρ1 <+: ρ2 ∧ Kp H1 H' ∧ SR G.K ρ2 H' ds2 σ' ∧ HR G ρ2 h2 H' ∧ Pst G (wL W N.length) ρ2 H' (foM tg.set (ex F xf b) w.2 (w.1.drop (i + 1)) ds2 h2) (pS G Dd), fun σ' H' nx => ⟨w.1.length - (i + 1), by omega, rfl, nx⟩, fun x H3 y => ?_⟩
    obtain ⟨d, ed, rd', hr3, k3⟩ := hJ.yld i G.fr ρ2 h2 H2 x H3 hlt p2 k2 hr2 hg y
    have ed2 : d = w.1[i] := by
      rw [List.getElem?_eq_getElem hlt] at ed
      exact (Option.some.inj ed).symm
    subst ed2
    have hr3 : HR G ρ2 h2 H3 := hr3
    split at q2
    · exact q2.elim
    · rename_i s1 es
      refine ⟨ρ2, _, ds2, s1, by rw [g.K]; exact rd', by rw [g.K]; exact sr2.mono (List.prefix_refl _) k3, es, fun σ4 sr4 _ => ?_⟩
      rw [g.K] at sr4
      refine ⟨ρ2, s1, h2, sr4, hr3, ((q2.later (List.prefix_refl _) k3).bnd).mono fun f ρ5 h5 H5 p5 k5 hr5 q5 => ?_⟩
      cases f with
      | nx s2 => exact fun σ' sr' => ⟨hlt, ρ5, s2, h5, p2.trans p5, (k2.trans k3).trans k5, sr', hr5, q5⟩
      | ct s2 => exact fun σ' sr' => ⟨hlt, ρ5, s2, h5, p2.trans p5, (k2.trans k3).trans k5, sr', hr5, q5⟩
      | bk s2 => exact fun σ' sr2 => q5.here hr5 σ' sr2
      | rt d => exact fun v r => q5.here hr5 v r
/-! ### blocks -/
theorem sNil : PSs X S.snil.srcs (tS G W N.length (ex F xf .snil)) := PSs.by fun Dd σ H ⟨ρ, ds, h, sr, hr, q⟩ => ⟨_, pss_nil, Pst.here q hr σ sr⟩
theorem sCons {a r : S} (ha : PS X a.src (tS G W N.length (ex F xf a))) (hr : PSs X r.srcs (tS G W N.length (ex F xf r))) : PSs X (S.scons a r).srcs (tS G W N.length (ex F xf (.scons a r))) :=
  PSs.by fun Dd σ H ⟨ρ, ds, h, sr, hr', q⟩ => ⟨_, pss_cons ha hr, by
    have q : Pst G (wL W N.length) ρ H ((ex F xf a ds h).bnd fun f h1 => match f with
      | .nx s1 => ex F xf r s1 h1
      | f => .ok f h1) (pS G Dd) := q
    refine ⟨ρ, ds, h, sr, hr', q.bnd.mono fun f ρ2 h2 H2 p2 k2 hr2 q2 => ?_⟩
    cases f with
    | nx s => exact fun σ' sr' => ⟨ρ2, s, h2, sr', hr2, q2⟩
    | rt d => exact fun v r => q2.here hr2 v r
    | bk s => exact fun σ' sr' => q2.here hr2 σ' sr'
    | ct s => exact fun σ' sr' => q2.here hr2 σ' sr'⟩
end
end Ms

/-! Pairs stored at once; a name set to a comprehension. -/
namespace Ms
open PySem PySem.Spec PyProof.Rows L2 Mx

section
variable {G : GL} {F : Cf} {N : List Str} {sc : List (Str × NameKind)} {W : WX} {X : Cx} {xf : Nat → Option (List Nat)}
def isL (sc : List (Str × NameKind)) (x : Str) : Bool := decide (sc.lookup x = some .local)
/-- the values of a pair are no constants all -/
def parV (es : List Expr) : Bool := !(es.all (foldedForSure 8)) && !(es.all (constantsAlone 8))
def parOk (N : List Str) (sc : List (Str × NameKind)) (l : List (Nat × Str × Pos)) (es : List Expr) : Bool := match l with
  | [a, b] => decide (N[a.1]? = some a.2.1) && decide (N[b.1]? = some b.2.1) && isL sc a.2.1 && isL sc b.2.1 && decide (a.1 ≠ b.1) && decide (a.2.1 ≠ b.2.1) && (b.2.2.line == a.2.2.line) && parV es && es.length == 2
  | [a, b, c] => decide (N[a.1]? = some a.2.1) && decide (N[b.1]? = some b.2.1) && decide (N[c.1]? = some c.2.1) && isL sc a.2.1 && isL sc b.2.1 && isL sc c.2.1 && decide (a.1 ≠ b.1) && decide (a.1 ≠ c.1) && decide (b.1 ≠ c.1) && decide (a.2.1 ≠ b.2.1) && decide (a.2.1 ≠ c.2.1) && decide (b.2.1 ≠ c.2.1) && (b.2.2.line == a.2.2.line) && (c.2.2.line == a.2.2.line) && parV es && es.length == 3
  | _ => false
theorem noStar : ∀ es : E, (es.srcs.any fun | .Starred .. => true | _ => false) = false := by
  have one : ∀ e : E, (match e.src with | .Starred .. => true | _ => false) = false := by
    intro e
    induction e with
    | newl l ih => exact ih
    | lval e ih => exact ih
    | lref e ih => exact ih
    | iseq e ih => exact ih
    | _ => rfl
  intro es
  induction es with
  | acons a r _ ih =>
    show ((match a.src with | .Starred .. => true | _ => false) || (r.srcs.any fun | .Starred .. => true | _ => false)) = false
    rw [one, ih]; rfl
  | _ => rfl
theorem swapped2 {a b : Nat × Str × Pos} {es : E} {p2 pt : Pos} {env : Env} (hk : env.scope.kind = .function) (ha : env.scope.names.lookup a.2.1 = some .local) (hb : env.scope.names.lookup b.2.1 = some .local) (hne : a.2.1 ≠ b.2.1) (hl : (b.2.2.line == a.2.2.line) = true) (hv : parV es.srcs = true) (h2 : es.srcs.length = 2) :
    swappedStores [(Tg.many [a, b] pt).src] (.Tuple es.srcs 0 p2) env = pure (some [a.2.1, b.2.1]) := by
  have bk : env.blockKind = .function := by unfold Env.blockKind; rw [hk]; rfl
  have ka : env.kindOf a.2.1 = some .local := ha
  have kb : env.kindOf b.2.1 = some .local := hb
  unfold parV at hv
  simp only [Bool.and_eq_true, Bool.not_eq_true'] at hv
  have hl' : b.2.2.line = a.2.2.line := beq_iff_eq.mp hl
  have hs := noStar es
  rw [List.any_eq_false] at hs
  show swappedStores [.Tuple [.Name a.2.1 a.2.2, .Name b.2.1 b.2.2] 0 pt] (.Tuple es.srcs 0 p2) env = _
  unfold swappedStores
  have hne2 : b.2.1 ≠ a.2.1 := Ne.symm hne
  simp [h2, bk, ka, kb, hl', hv.1, hv.2, List.eraseDups, List.eraseDupsBy, List.eraseDupsBy.loop, hne, hne2, Expr.pos]
  rw [if_neg (by rintro ⟨x, hx, e⟩; exact hs x hx e)]
  have e1 : (b.2.1 == a.2.1) = false := by simpa using hne2
  simp only [e1]
  rfl
theorem swapped3 {a b c : Nat × Str × Pos} {es : E} {p2 pt : Pos} {env : Env} (hk : env.scope.kind = .function) (ha : env.scope.names.lookup a.2.1 = some .local) (hb : env.scope.names.lookup b.2.1 = some .local) (hc : env.scope.names.lookup c.2.1 = some .local) (hne : a.2.1 ≠ b.2.1) (hac : a.2.1 ≠ c.2.1) (hbc : b.2.1 ≠ c.2.1) (hl : (b.2.2.line == a.2.2.line) = true) (hlc : (c.2.2.line == a.2.2.line) = true) (hv : parV es.srcs = true) (h2 : es.srcs.length = 3) :
    swappedStores [(Tg.many [a, b, c] pt).src] (.Tuple es.srcs 0 p2) env = pure (some [a.2.1, b.2.1, c.2.1]) := by
  have bk : env.blockKind = .function := by unfold Env.blockKind; rw [hk]; rfl
  have ka : env.kindOf a.2.1 = some .local := ha
  have kb : env.kindOf b.2.1 = some .local := hb
  have kc : env.kindOf c.2.1 = some .local := hc
  unfold parV at hv
  simp only [Bool.and_eq_true, Bool.not_eq_true'] at hv
  have hl' : b.2.2.line = a.2.2.line := beq_iff_eq.mp hl
  have hlc' : c.2.2.line = a.2.2.line := beq_iff_eq.mp hlc
  have hs := noStar es
  rw [List.any_eq_false] at hs
  show swappedStores [.Tuple [.Name a.2.1 a.2.2, .Name b.2.1 b.2.2, .Name c.2.1 c.2.2] 0 pt] (.Tuple es.srcs 0 p2) env = _
  unfold swappedStores
  have hne2 : b.2.1 ≠ a.2.1 := Ne.symm hne
  have hac2 : c.2.1 ≠ a.2.1 := Ne.symm hac
  have hbc2 : c.2.1 ≠ b.2.1 := Ne.symm hbc
  simp [h2, bk, ka, kb, kc, hl', hlc', hv.1, hv.2, List.eraseDups, List.eraseDupsBy, List.eraseDupsBy.loop, hne, hne2, hac, hac2, hbc, hbc2, Expr.pos]
  rw [if_neg (by rintro ⟨x, hx, e⟩; exact hs x hx e)]
  have e1 : (b.2.1 == a.2.1) = false := by simpa using hne2
  have e2 : (c.2.1 == a.2.1) = false := by simpa using hac2
  have e3 : (c.2.1 == b.2.1) = false := by simpa using hbc2
  simp only [e1, e2, e3]
  rfl
theorem isL_ok (g : GX G F N sc W X) {x : Str} (h : isL sc x = true) : X.env.scope.names.lookup x = some .local := g.sco.loc x (of_decide_eq_true h)
theorem sPar (g : GX G F N sc W X) {l : List (Nat × Str × Pos)} {pt p2 p : Pos} {es : E} (h : parOk N sc l es.srcs = true) (hes : isArgs es = true) (ha : PA X es.srcs (tA G W (evs F es))) : PS X (S.par l pt es p2 p).src (tS G W N.length (ex F xf (.par l pt es p2 p))) := by
  match l, h with
  | [a, b], h =>
    unfold parOk at h
    simp only [Bool.and_eq_true, decide_eq_true_eq, beq_iff_eq] at h
    obtain ⟨⟨⟨⟨⟨⟨⟨⟨h1, h2⟩, h3⟩, h4⟩, h5⟩, h6⟩, h7⟩, h8⟩, h9⟩ := h
    refine PS.by3 fun Dd σ H hk hl w => ?_
    have hw := swapped2 (p2 := p2) (pt := pt) hk (isL_ok g h3) (isL_ok g h4) h6 (beq_iff_eq.mpr h7) h8 h9
    cases es with
    | acons x r =>
      cases r with
      | acons y r2 =>
        cases r2 with
        | anil =>
          refine ⟨_, ps_par g.calm (by rw [g.hN]; exact g.nd) (by rw [g.hN]; exact h1) (by rw [g.hN]; exact h2) h5 (isL_ok g h3) (isL_ok g h4) ha hw rfl, ?_⟩
          refine rowW (β := Fl) (f := fun s xs h1 => match asgs s [a, b] xs with
            | some s1 => .ok (.nx s1) h1
            | none => .no) (P := pS G Dd) (by rw [hl, g.hN]) w fun ρ ds xs h' H' vs sr hr rl q => ?_
          match xs, rl, q with
          | [u, v], rl, q =>
            unfold RL at rl
            obtain ⟨v1, r1, rfl, q1, rl⟩ := rl
            unfold RL at rl
            obtain ⟨v2, r2, rfl, q2, rl⟩ := rl
            unfold RL at rl
            subst rl
            exact ⟨v1, v2, rfl, Pst.here q hr _ ((sr.set q1).set q2)⟩
          | [], _, q => exact q.elim
          | [_], _, q => exact q.elim
          | _ :: _ :: _ :: _, _, q => exact q.elim
        | acons z r3 => have h9 : r3.srcs.length + 1 + 1 + 1 = 2 := h9; omega
        | _ => cases hes
      | anil => have h9 : 1 = 2 := h9; omega
      | _ => cases hes
    | anil => have h9 : 0 = 2 := h9; omega
    | _ => cases hes
  | [a, b, c], h =>
    unfold parOk at h
    simp only [Bool.and_eq_true, decide_eq_true_eq, beq_iff_eq] at h
    obtain ⟨⟨⟨⟨⟨⟨⟨⟨⟨⟨⟨⟨⟨⟨⟨h1, h2⟩, h3⟩, h4⟩, h5⟩, h6⟩, h7⟩, h8⟩, h9⟩, h10⟩, h11⟩, h12⟩, h13⟩, h14⟩, h15⟩, h16⟩ := h
    refine PS.by3 fun Dd σ H hk hl w => ?_
    have hw := swapped3 (p2 := p2) (pt := pt) hk (isL_ok g h4) (isL_ok g h5) (isL_ok g h6) h10 h11 h12 (beq_iff_eq.mpr h13) (beq_iff_eq.mpr h14) h15 h16
    cases es with
    | acons x r =>
      cases r with
      | acons y r2 =>
        cases r2 with
        | acons z r3 =>
          cases r3 with
          | anil =>
            refine ⟨_, ps_par3 g.calm (by rw [g.hN]; exact g.nd) (by rw [g.hN]; exact h1) (by rw [g.hN]; exact h2) (by rw [g.hN]; exact h3) h7 h8 h9 (isL_ok g h4) (isL_ok g h5) (isL_ok g h6) ha hw rfl, ?_⟩
            refine rowW (β := Fl) (f := fun s xs h1 => match asgs s [a, b, c] xs with
              | some s1 => .ok (.nx s1) h1
              | none => .no) (P := pS G Dd) (by rw [hl, g.hN]) w fun ρ ds xs h' H' vs sr hr rl q => ?_
            match xs, rl, q with
            | [u, v, w], rl, q =>
              unfold RL at rl
              obtain ⟨v1, r1, rfl, q1, rl⟩ := rl
              unfold RL at rl
              obtain ⟨v2, r2, rfl, q2, rl⟩ := rl
              unfold RL at rl
              obtain ⟨v3, r3, rfl, q3, rl⟩ := rl
              unfold RL at rl
              subst rl
              exact ⟨v1, v2, v3, rfl, Pst.here q hr _ (((sr.set q1).set q2).set q3)⟩
            | [], _, q => exact q.elim
            | [_], _, q => exact q.elim
            | [_, _], _, q => exact q.elim
            | _ :: _ :: _ :: _ :: _, _, q => exact q.elim
          | acons z r3 => have h16 : r3.srcs.length + 1 + 1 + 1 + 1 = 3 := h16; omega
          | _ => cases hes
        | anil => have h16 : 2 = 3 := h16; omega
        | _ => cases hes
      | anil => have h16 : 1 = 3 := h16; omega
      | _ => cases hes
    | anil => have h16 : 0 = 3 := h16; omega
    | _ => cases hes
  | [], h => cases h
  | [_], h => cases h
  | _ :: _ :: _ :: _ :: _, h => cases h
/-! ### a name set to a comprehension -/
def lcSame (x : Str) (px : Pos) : E → Bool
  | .newl (.lc _ _ _ _ _ scope p) => (px.line == p.line) && !(scope.names.any fun (n, k) => n == x && (k == .local || k == .cell))
  | _ => false
def lcDiff (x : Str) (px : Pos) (sc : List (Str × NameKind)) : E → Bool
  | .newl (.lc _ _ _ _ _ scope p) => !(px.line == p.line) || decide (sc.lookup x = some .cell)
  | _ => false
theorem sSetLc (g : GX G F N sc W X) {i : Nat} {x : Str} {px p qp : Pos} {elt : E} {tg : Tg} {it cond : E} {own : List (Str × Nat)} {scope : Scope} (h0 : tg1 N sc i x = true) (h1 : isL sc x = true) (h2 : lcSame x px (.newl (.lc elt tg it cond own scope qp)) = true)
    (hsub : ∀ i ∈ ixs tg, i ∈ own.map (·.2)) (hne : scope.names ≠ G.lsc) (hb : blkQ N sc scope own = true) (ht : tgOk N scope.names tg = true)
    (hi : PI X tg.src it.src (tI G W (evi F it)))
    (hc : ∀ X', GX G F N scope.names W0 X' → PTs X' cond.srco.toList (tTf G (evc F cond)))
    (he : ∀ X', GX G F N scope.names W0 X' → PE X' elt.src (tEf G (ev F elt))) : PS X (S.set i x px (.newl (.lc elt tg it cond own scope qp)) p).src (tS G W N.length (ex F xf (.set i x px (.newl (.lc elt tg it cond own scope qp)) p))) := by
  unfold lcSame at h2
  rw [Bool.and_eq_true, Bool.not_eq_true'] at h2
  unfold tg1 at h0
  rw [Bool.and_eq_true] at h0
  refine PS.by3 fun Dd σ H hk hl w => ⟨_, ps_setLc g.calm (by rw [g.hN]; exact g.nd) (by rw [g.hN]; exact of_decide_eq_true h0.1) (isL_ok g h1) (sw_true hk (isL_ok g h1) h2.1 h2.2) hi (blkQ_ok g hb)
    (g := gD X.K tg) (fun s H C cl fp => pgD (g.blk hne s H C cl fp) ht) (tt := tTf G (evc F cond)) (fun s H C cl fp => hc _ (g.blk hne s H C cl fp)) (te := tEf G (ev F elt)) (fun s H C cl fp => he _ (g.blk hne s H C cl fp)) (src_fold it X.env), ?_⟩
  have hn : σ.length = N.length := by rw [hl, g.hN]
  refine plcT (scope := scope) (p := qp) (Q := fun x H1 => Dd.nx (σ.set i (some x)) H1) g hsub ?_
  obtain ⟨ρ, ds, h, sr, hr, q⟩ := w
  refine ⟨ρ, ds, h, sr, hr, ?_⟩
  have q2 : Pst G (wL W N.length) ρ H ((evl F (.lc elt tg it cond own scope qp) ds h).bnd fun xs h1 => (if xs.length ≤ SZ then alloc (.lst xs) h1 else .no).bnd fun x h2 => .ok (.nx (asg1 ds i x)) h2) (pS G Dd) := by
    have q : Pst G (wL W N.length) ρ H (((evl F (.lc elt tg it cond own scope qp) ds h).bnd fun xs h1 => if xs.length ≤ SZ then alloc (.lst xs) h1 else .no).bnd fun x h2 => .ok (.nx (asg1 ds i x)) h2) (pS G Dd) := q
    rw [bnd_assoc] at q
    exact q
  refine (q2.bnd.mono fun xs ρ2 h2 H2 p2 k2 hr2 q3 vs a rl ha => ?_).wk fun c d H' w => w σ hn
  by_cases hz : xs.length ≤ SZ
  · rw [if_pos hz] at q3
    have z : HR G (ρ2 ++ [a]) (h2 ++ [.lst xs]) (upd H2 a (.lst vs)) := hr2.alloc ha ⟨vs, upd_same, rl.mono (List.prefix_append _ _) (Kp.new ha)⟩ rfl
    exact q3 _ _ (List.prefix_append _ _) (Kp.new ha) z _ (((sr.mono p2 k2).mono (List.prefix_append _ _) (Kp.new ha)).set (by unfold R; exact ⟨a, rfl, app_get ρ2 a h2 hr2.len⟩))
  · rw [if_neg hz] at q3
    exact q3.elim
theorem lcDiff_ok (g : GX G F N sc W X) {x : Str} {px : Pos} {e : E} (h : lcDiff x px sc e = true) (hn : ∀ l, e = .newl l → isNew l = true) (l : Nat) : swapsWith e.src (some (.Name x px)) l X.env = pure false := by
  cases e with
  | newl l' =>
    cases l' with
    | lc elt tg it cond own scope p =>
      unfold lcDiff at h
      simp only [Bool.or_eq_true, Bool.not_eq_true', decide_eq_true_eq] at h
      show swapsWith (.ListComp elt.src _ scope p) (some (.Name x px)) l X.env = pure false
      unfold swapsWith
      rcases h with h | h
      · simp [Expr.pos, h]
      · have k : X.env.kindOf x = some .cell := (g.sco.cel x h).1
        have e : (NameKind.cell == NameKind.local) = false := rfl
        simp [k, e]
    | _ => cases h
  | _ => cases h
end
end Ms

/-! raise and try. -/
namespace Ms
open PySem PySem.Spec PyProof.Rows L2 Mx

section
variable {G : GL} {F : Cf} {N : List Str} {sc : List (Str × NameKind)} {W : WX} {X : Cx}
theorem nmI_get {i : Nat} (h : i < G.nms.length) : G.nms[i]? = some (nmI G i) := by
  unfold nmI
  rw [List.getD_eq_getElem?_getD]
  simp [h]
theorem lk_hd {α β : Type} [BEq α] [LawfulBEq α] (x : α) (v : β) (r : List (α × β)) : List.lookup x ((x, v) :: r) = some v := by simp [List.lookup_cons]
theorem lk_tl {α β : Type} [BEq α] [LawfulBEq α] {x y : α} (h : x ≠ y) (v : β) (r : List (α × β)) : List.lookup x ((y, v) :: r) = List.lookup x r := by
  have e : (x == y) = false := by simpa using h
  simp [List.lookup_cons, e]
theorem len1 {α : Type} {l : List α} (h : l.length = 1) : ∃ a, l = [a] := by
  cases l with
  | nil => cases h
  | cons a r => cases r with
    | nil => exact ⟨a, rfl⟩
    | cons _ _ => simp at h
theorem len2 {α : Type} {l : List α} (h : l.length = 2) : ∃ a b, l = [a, b] := by
  cases l with
  | nil => cases h
  | cons a r => cases r with
    | nil => simp at h
    | cons b r => cases r with
      | nil => exact ⟨a, b, rfl⟩
      | cons _ _ => simp at h
theorem xfl_len {l : List Nat} (h : xfl l = true) : (∃ a, l = [a]) ∨ ∃ a b, l = [a, b] ∧ a ≠ b := by
  match l, h with
  | [a], _ => exact .inl ⟨a, rfl⟩
  | [a, b], h => exact .inr ⟨a, b, rfl, of_decide_eq_true h⟩
/-- an error's fields, laid from the last -/
theorem xr_of (gf : GF G) {l : List Nat} {ds : List D} {vs : List V} {ρ : Rho} {H : Hp} (h1 : xfl l = true) (h2 : ∀ i ∈ l, i < G.nms.length) (rl : RL G.K ρ H ds vs) (hl : l.length = ds.length) : XR G ρ H (l.zip ds) ((l.map (nmI G)).zip vs).reverse := by
  intro i d x hf hx
  rcases xfl_len h1 with ⟨a, rfl⟩ | ⟨a, b, rfl, hab⟩
  · obtain ⟨e, rfl⟩ := len1 hl.symm
    · skip
      unfold RL at rl
      obtain ⟨v, r, rfl, rv, rn⟩ := rl
      unfold RL at rn
      subst rn
      have hf : (if i = a then some e else none) = some d := hf
      by_cases hia : i = a
      · rw [if_pos hia] at hf
        cases hf
        subst hia
        have na := nmI_get (G := G) (h2 i List.mem_cons_self)
        have ex : x = nmI G i := Option.some.inj (hx.symm.trans na)
        rw [ex]
        exact ⟨v, lk_hd _ v [], rv⟩
      · rw [if_neg hia] at hf
        cases hf
  · obtain ⟨e, f, rfl⟩ := len2 hl.symm
    · skip
      unfold RL at rl
      obtain ⟨v, r, rfl, rv, rn⟩ := rl
      unfold RL at rn
      obtain ⟨w, r, rfl, rw', rn⟩ := rn
      unfold RL at rn
      subst rn
      have na := nmI_get (G := G) (h2 a List.mem_cons_self)
      have nb := nmI_get (G := G) (h2 b (List.mem_cons_of_mem _ List.mem_cons_self))
      have hne : nmI G a ≠ nmI G b := fun z => hab (nms_inj gf.nnd na (by rw [z]; exact nb))
      have hf : (if i = a then some e else if i = b then some f else none) = some d := hf
      have goal : ∃ u, List.lookup x [(nmI G b, w), (nmI G a, v)] = some u ∧ R G.K ρ H d u := by
        by_cases hia : i = a
        · rw [if_pos hia] at hf
          cases hf
          subst hia
          have ex : x = nmI G i := Option.some.inj (hx.symm.trans na)
          rw [ex]
          exact ⟨v, by rw [lk_tl hne, lk_hd], rv⟩
        · rw [if_neg hia] at hf
          by_cases hib : i = b
          · rw [if_pos hib] at hf
            cases hf
            subst hib
            have ex : x = nmI G i := Option.some.inj (hx.symm.trans nb)
            rw [ex]
            exact ⟨w, lk_hd _ w _, rw'⟩
          · rw [if_neg hib] at hf
            cases hf
      exact goal
theorem sRai (g : GX G F N sc W X) {c : Nat} {x : Str} {px pc p : Pos} {a r : E} (h0 : G.cN c = some x) (hx : (G.P.xf c).isSome = true) (h1 : isGlo sc x = true) (h2 : plainN x = true) (h3 : isArgs r = true) (h4 : alen r < 900) (ha : PA X (E.acons a r).srcs (tA G W (evs F (.acons a r)))) : PS X (S.rai c x px (.acons a r) pc p).src (tS G W N.length (ex F G.P.xf (.rai c x px (.acons a r) pc p))) := by
  obtain ⟨l, hl⟩ := Option.isSome_iff_exists.mp hx
  obtain ⟨T, _, iC, tI, bI, z1, z2⟩ := g.gf.xcl c l hl
  obtain ⟨k, hr, hF⟩ := g.xk
  have hm := g.gf.cls c x h0
  rw [← g.mg] at hm
  rw [← g.K] at T iC tI bI
  refine PS.by3 fun Dd σ H hk hlen w => ⟨_, ps_raise g.calm g.tk (pmk_oex T iC tI (hF c l hl) hr bI .nil (fun _ _ _ _ _ _ _ z => by
    obtain ⟨_, _, _, _, _, _, _, _, _, _, _, _, z⟩ := z
    exact z.elim) (g.sco.gl h1) hm ha (plainN1 h2) (src_star a _ _) (srcs_star _ _ r)), ?_⟩
  have hn : σ.length = N.length := by rw [hlen, g.hN]
  refine rowW (β := Fl) (f := fun s xs h1 => match exc G.P.xf c xs with
    | some fs => .ex c fs h1
    | none => .no) (P := pS G Dd) hn w fun ρ ds xs h' H' vs sr hr' rl q => ?_
  split at q
  · rename_i fs hfs
    unfold exc at hfs
    rw [hl] at hfs
    have hfs : (if l.length = xs.length then some (l.zip xs) else none) = some fs := hfs
    split at hfs
    · rename_i hle
      cases hfs
      have hvl : vs.length ≤ 1000 := by
        rw [rl.length, ← hle]
        match l, z1 with
        | [_], _ => show 1 ≤ 1000; decide
        | [_, _], _ => show 2 ≤ 1000; decide
      refine ⟨hvl, fun a ha => ?_⟩
      rw [List.append_nil]
      refine ⟨by rw [List.length_cons, rl.length, hle], a, vs, rfl, upd_same, fun d hd hda => ⟨rfl, d, _, upd_same, by rw [upd_ne hda, upd_same], by rw [upd_ne hda] at hd; exact hd, ?_⟩⟩
      have hd1 : H' d = none := by rw [upd_ne hda] at hd; exact hd
      have e : upd (L2.del (upd (upd (upd H' a (exo a (G.cA c) none)) d (exd d ((l.map (nmI G)).zip vs).reverse)) a (exo a (G.cA c) (some d))) a) d (.xd ((l.map (nmI G)).zip vs).reverse) = upd H' d (.xd ((l.map (nmI G)).zip vs).reverse) := by
        funext b
        by_cases hb : b = d
        · subst hb; rw [upd_same, upd_same]
        · rw [upd_ne hb, upd_ne hb]
          by_cases hba : b = a
          · subst hba; rw [L2.del_same, ha]
          · rw [L2.del_ne hba, upd_ne hba, upd_ne hb, upd_ne hba]
      rw [e]
      exact q ρ _ d _ (List.prefix_refl _) (Kp.new hd1) (hr'.junk hd1) upd_same (xr_of g.gf z1 z2 (rl.mono (List.prefix_refl _) (Kp.new hd1)) hle) σ hn
    · cases hfs
  · exact q.elim
/-! ### try -/
theorem GX.tr (g : GX G F N sc W X) (pn : List (Addr × Obj)) (xe : Value → Shared → Prop) {W' : WX} (tk : Takes (X.tr pn xe) W') : GX G F N sc W' (X.tr pn xe) := ⟨g.gf, g.K, g.mg, g.calm, g.hN, g.nd, ⟨g.sco.loc, g.sco.cel, g.sco.fre, g.sco.glo⟩, tk, g.md, g.ini, g.cf, g.mf, g.xk, g.lm⟩
/-- what the suite hands back -/
def tHr (G : GL) (i : Nat) (hr : Hr) (a : Addr) (cls : Value) (d : Option Addr) (C : Addr) : TE := fun σ H Q => σ[i]? = some (some (.ref a)) ∧ cls = .ref C ∧ ∃ (dd : Addr) (gs : List (Str × V)), d = some dd ∧ H dd = some (.xd gs) ∧ match hr with
  | .one _ x _ _ => ∃ v, gs.lookup x = some v ∧ Q v H
  | .tup l _ => ∃ vs : List V, l.map (fun t => gs.lookup t.2.1) = vs.map some ∧ vs.length ≤ sizeLine ∧ ∀ p, H p = none → Q (.ref p) (upd H p (.tup vs))
def hrOk (S : SD) (fl : List Nat) : Hr → Bool
  | .one f x _ _ => decide (S.nms[f]? = some x) && decide (f ∈ fl)
  | .tup l _ => (l.all fun t => decide (S.nms[t.1]? = some t.2.1) && decide (t.1 ∈ fl)) && decide (l.length ≤ 100)
section
variable {a C : Addr} {oe : Obj} {cls : Value} {d : Option Addr} {pn : List (Addr × Obj)} {i : Nat} {n : Str}
theorem pe_hr1 (T : XfC X.K C) {x : Str} {p1 p2 : Pos} (hno : PySem.W.findIn X.K (.ref C) x = some none) (hz : Zc cls d oe) (hf : ∃ vs, oe.data = .fields vs) (hN : X.N[i]? = some n) (hv : Vis X.env.scope n) (hp : plainN n = true) :
    PE (X.suite a ((a, oe) :: pn)) (.Attribute (.Name n p1) x p2) (tXf a cls d C x (tVar i)) := pe_xf T hno hz hf (pe_var (X := X.suite a ((a, oe) :: pn)) hN hv (plainN1 hp) (plainN2 hp)) rfl
theorem pa_hr (T : XfC X.K C) (hz : Zc cls d oe) (hf : ∃ vs, oe.data = .fields vs) (hN : X.N[i]? = some n) (hv : Vis X.env.scope n) (hp : plainN n = true) : ∀ l : List (Nat × Str × Pos × Pos), (∀ t ∈ l, PySem.W.findIn X.K (.ref C) t.2.1 = some none) →
    PA (X.suite a ((a, oe) :: pn)) (l.map fun t => .Attribute (.Name n t.2.2.1) t.2.1 t.2.2.2) fun σ H Q => σ[i]? = some (some (.ref a)) ∧ cls = .ref C ∧ ∃ (dd : Addr) (gs : List (Str × V)), d = some dd ∧ H dd = some (.xd gs) ∧ ∃ vs : List V, l.map (fun t => gs.lookup t.2.1) = vs.map some ∧ Q vs H
  | [], _ => ⟨fun pos pins s σ H Q I ⟨h1, h2, dd, gs, h3, h4, vs, h5, q⟩ => pa_nil.run pos pins s σ H Q I (by
    cases vs with
    | nil => exact q
    | cons _ _ => cases h5)⟩
  | t :: l, h => ⟨fun pos pins s σ H Q I ⟨h1, h2, dd, gs, h3, h4, vs, h5, q⟩ => (pa_cons (pe_hr1 (p1 := t.2.2.1) (p2 := t.2.2.2) T (h t List.mem_cons_self) hz hf hN hv hp) (pa_hr T hz hf hN hv hp l fun t ht => h t (List.mem_cons_of_mem _ ht))).run pos pins s σ H Q I (by
    cases vs with
    | nil => cases h5
    | cons v vs =>
      rw [List.map_cons, List.map_cons, List.cons.injEq] at h5
      exact ⟨.ref a, h1, rfl, h2, dd, gs, v, h3, h4, h5.1, h1, h2, dd, gs, h3, h4, vs, h5.2, q⟩)⟩
def hrNo (K : PySem.W.Frag) (C : Addr) : Hr → Prop
  | .one _ x _ _ => PySem.W.findIn K (.ref C) x = some none
  | .tup l _ => ∀ t ∈ l, PySem.W.findIn K (.ref C) t.2.1 = some none
theorem pe_hr {hr : Hr} (T : XfC X.K C) (hz : Zc cls d oe) (hf : ∃ vs, oe.data = .fields vs) (hN : X.N[i]? = some n) (hv : Vis X.env.scope n) (hp : plainN n = true)
    (hno : hrNo X.K C hr) : PE (X.suite a ((a, oe) :: pn)) (hr.src n) (tHr G i hr a cls d C) := by
  cases hr with
  | one f x p1 p2 => exact PE.imp (pe_hr1 T hno hz hf hN hv hp) fun σ H Q ⟨h1, h2, dd, gs, h3, h4, v, h5, q⟩ => ⟨.ref a, h1, rfl, h2, dd, gs, v, h3, h4, h5, q⟩
  | tup l p => exact PE.imp (pe_tup (pa_hr T hz hf hN hv hp l hno)) fun σ H Q ⟨h1, h2, dd, gs, h3, h4, vs, h5, h6, q⟩ => ⟨h1, h2, dd, gs, h3, h4, vs, h5, h6, q⟩
end
theorem hr_val {l : List (Nat × Str × Pos × Pos)} {fs : Fs} {ds : List D} {gs : List (Str × V)} {ρ : Rho} {H : Hp} (xr : XR G ρ H fs gs) (hn : ∀ t ∈ l, G.nms[t.1]? = some t.2.1) (e : l.mapM (fun t => fget fs t.1) = some ds) : ∃ vs : List V, l.map (fun t => gs.lookup t.2.1) = vs.map some ∧ RL G.K ρ H ds vs := by
  induction l generalizing ds with
  | nil => cases e; exact ⟨[], rfl, RL.nil⟩
  | cons t l ih =>
    rw [List.mapM_cons] at e
    cases e1 : fget fs t.1 with
    | none => rw [e1] at e; cases e
    | some d =>
      rw [e1] at e
      cases e2 : l.mapM (fun t => fget fs t.1) with
      | none => rw [e2] at e; cases e
      | some ds' =>
        rw [e2] at e
        cases e
        obtain ⟨v, h1, h2⟩ := xr t.1 d t.2.1 e1 (hn t List.mem_cons_self)
        obtain ⟨vs, h3, h4⟩ := ih (fun t ht => hn t (List.mem_cons_of_mem _ ht)) e2
        exact ⟨v :: vs, by rw [List.map_cons, List.map_cons, h1, h3], RL.cons h2 h4⟩
theorem sTry (g : GX G F N sc W X) (hs : X.stack = X.env :: X.outer) (hf : X.env.frame = some X.env.locals) {b : S} {c : Nat} {x : Str} {px : Pos} {i : Nat} {n : Str} {hr : Hr} {pr ph p : Pos} {l : List Nat}
    (h0 : G.cN c = some x) (hl : G.P.xf c = some l) (h1 : isGlo sc x = true) (h2 : plainN x = true) (h3 : N[i]? = some n) (h4 : isL sc n = true) (h5 : plainN n = true) (h6 : hrOk G.sd l hr = true)
    (hb : ∀ (W' : WX) (pn : List (Addr × Obj)) (xe : Value → Shared → Prop), GX G F N sc W' (X.tr pn xe) → PassesOwn (model X.prog X.w) X.A X.env xe → PSs (X.tr pn xe) b.srcs (tS G W' N.length (ex F G.P.xf b))) :
    PS X (S.tryr b c x px i n hr pr ph p).src (tS G W N.length (ex F G.P.xf (.tryr b c x px i n hr pr ph p))) := by
  obtain ⟨T, Tx, _, _, _, z1, z2⟩ := g.gf.xcl c l hl
  rw [← g.K] at Tx
  have hm := g.gf.cls c x h0
  rw [← g.mg] at hm
  have hv : Vis X.env.scope n := .inl (isL_ok g h4)
  have hno : hrNo X.K (G.cA c) hr := by
    cases hr with
    | one f y p1 p2 =>
      unfold hrOk at h6
      simp only [Bool.and_eq_true, decide_eq_true_eq] at h6
      show PySem.W.findIn X.K (.ref (G.cA c)) y = some none
      rw [g.K]
      exact g.gf.xno c l f y hl h6.2 h6.1
    | tup m p =>
      unfold hrOk at h6
      simp only [Bool.and_eq_true, decide_eq_true_eq, List.all_eq_true] at h6
      intro t ht
      rw [g.K]
      exact g.gf.xno c l t.1 t.2.1 hl (h6.1 t ht).2 (h6.1 t ht).1
  refine PS.by3 fun Dd σ H hk hlen w => ⟨_, ps_try_as (c := .ref (G.cA c)) (i := i) hs hf (by rw [g.hN]; exact g.nd) (by rw [g.hN]; exact h3) (isL_ok g h4) ⟨g.sco.gl h1, plainN1 h2, .inl hm⟩ g.tk
    (tb := fun W' => tS G W' N.length (ex F G.P.xf b)) (fun W' pn xe tk po => hb W' pn xe (g.tr pn xe tk) po)
    (ts := fun a cls d => tRet (tHr G i hr a cls d (G.cA c))) (fun a oe cls d pn hz hfl => pss_one (ps_ret (pe_hr Tx hz hfl (by rw [g.hN]; exact h3) hv h5 hno))), ?_⟩
  have hn : σ.length = N.length := by rw [hlen, g.hN]
  obtain ⟨ρ, ds, h, sr, hr', q⟩ := w
  refine ⟨ρ, ds, h, sr, hr', ?_⟩
  have q : Pst G (wL W N.length) ρ H (match ex F G.P.xf b ds h with
    | .ok f h1 => .ok f h1
    | .no => .no
    | .ex c' fs h1 => if (G.P.xf c').isSome = true then if c' = c then match hr.val fs with
      | some d => .ok (.rt d) h1
      | none => .no
      else .ex c' fs h1 else .no) (pS G Dd) := q
  cases e : ex F G.P.xf b ds h with
  | ok f h1 => rw [e] at q; exact q
  | no => rw [e] at q; exact q.elim
  | ex c' fs h1 =>
    rw [e] at q
    obtain ⟨hx, q⟩ := Pst.ite (c := (G.P.xf c').isSome = true) q
    intro ρ' H' e' gs p1 k1 hr1 he xr σ' hn'
    refine ⟨decide (c' = c), by rw [g.K]; exact g.gf.exm c' c hx (by rw [hl]; rfl), fun hb => ?_, fun hb => ?_⟩
    · have hc := of_decide_eq_true hb
      subst hc
      rw [if_pos rfl] at q
      intro a ha
      have hi : i < σ'.length := by
        rw [hn']
        exact (List.getElem?_eq_some_iff.mp h3).1
      refine ⟨by rw [List.getElem?_set_self hi], rfl, e', gs, rfl, he, ?_⟩
      cases hr with
      | one f y p1' p2' =>
        unfold hrOk at h6
        simp only [Bool.and_eq_true, decide_eq_true_eq] at h6
        have q : Pst G (wL W N.length) ρ H (match fget fs f with
          | some d => .ok (.rt d) h1
          | none => .no) (pS G Dd) := q
        split at q
        · rename_i dd hd
          obtain ⟨v, q1, q2⟩ := xr f dd y hd h6.1
          exact ⟨v, q1, q ρ' H' p1 k1 hr1 v q2⟩
        · exact q.elim
      | tup m p =>
        unfold hrOk at h6
        simp only [Bool.and_eq_true, decide_eq_true_eq, List.all_eq_true] at h6
        have q : Pst G (wL W N.length) ρ H (match (m.mapM fun t => fget fs t.1).map D.tup with
          | some d => .ok (.rt d) h1
          | none => .no) (pS G Dd) := q
        cases em : m.mapM fun t => fget fs t.1 with
        | none => rw [em] at q; exact q.elim
        | some dl =>
          rw [em] at q
          obtain ⟨vs, q1, q2⟩ := hr_val xr (fun t ht => (h6.1 t ht).1) em
          have hvl : vs.length = m.length := by
            have := congrArg List.length q1
            rw [List.length_map, List.length_map] at this
            exact this.symm
          refine ⟨vs, q1, by rw [hvl, sizeLine_eq]; omega, fun p0 hp0 => ?_⟩
          have kk : Kp H' (upd H' p0 (.tup vs)) := Kp.new hp0
          exact q ρ' _ p1 (k1.trans kk) (hr1.junk hp0) _ (R.ofTup (.inl upd_same) (q2.mono (List.prefix_refl _) kk))
    · have hc : c' ≠ c := of_decide_eq_false hb
      rw [if_neg hc] at q
      exact q ρ' H' e' gs p1 k1 hr1 he xr σ' hn'
end
end Ms

/-! Every statement of the machine in the model. -/
namespace Ms
open PySem PySem.Spec PyProof.Rows L2 Mx

def isSt : S → Bool
  | .snil | .scons _ _ => false
  | _ => true
def isBk : S → Bool
  | .snil | .scons _ _ => true
  | _ => false
def notTup : E → Bool
  | .tup _ _ => false
  | _ => true
def isCons : E → Bool
  | .acons _ _ => true
  | _ => false
def okS (T : SD) (N : List Str) (sc : List (Str × NameKind)) : S → Bool
  | .snil => true
  | .scons a r => isSt a && isBk r && okS T N sc a && okS T N sc r
  | .exp e _ => solid e && notLc e && okE T N e sc
  | .set i x px e _ => tg1 N sc i x && solid e && (notLc e || lcDiff x px sc e || (lcSame x px e && isL sc x)) && okE T N e sc
  | .unp tg e _ => tgOk N sc tg && isMany tg && solid e && notTup e && okE T N e sc
  | .par l _ es _ _ => parOk N sc l es.srcs && isArgs es && okE T N es sc
  | .fld o f x _ e _ => decide (T.nms[f]? = some x) && solid e && isExp o && okE T N o sc && okE T N e sc
  | .fau o f x _ _ e _ => decide (T.nms[f]? = some x) && isExp e && isExp o && okE T N o sc && okE T N e sc
  | .aug i x _ _ e _ => tg1 N sc i x && isExp e && okE T N e sc
  | .sub o i _ e _ => solid e && isExp o && isExp i && okE T N o sc && okE T N i sc && okE T N e sc
  | .ret e _ => isExp e && okE T N e sc
  | .retn _ => true
  | .ife c a b _ => isExp c && isBk a && isBk b && okE T N c sc && okS T N sc a && okS T N sc b
  | .whl c b _ => isExp c && isBk b && okE T N c sc && okS T N sc b
  | .loop tg it b _ => isIt it && tgOk N sc tg && (!isEn it || isMany tg) && isBk b && okE T N it sc && okS T N sc b
  | .brk _ | .cnt _ | .pas _ => true
  | .rai c x _ es _ _ => decide (T.cN c = some x) && (T.xf c).isSome && isGlo sc x && plainN x && isCons es && isArgs es && decide (alen es < 900) && okE T N es sc
  | .tryr b c x _ i n hr _ _ _ => decide (T.cN c = some x) && (match T.xf c with | some l => hrOk T l hr | none => false) && isGlo sc x && plainN x && decide (N[i]? = some n) && isL sc n && plainN n && isBk b && okS T N sc b
theorem mainS {F : Cf} {N : List Str} {T : SD} {sc : List (Str × NameKind)} : ∀ (s : S) {G : GL} {W : WX} {X : Cx}, GX G F N sc W X → G.sd = T → PassesOwn (model X.prog X.w) X.A X.env X.xe → X.stack = X.env :: X.outer → X.env.frame = some X.env.locals → okS T N sc s = true →
    (isSt s = true → PS X s.src (tS G W N.length (ex F G.P.xf s))) ∧ (isBk s = true → PSs X s.srcs (tS G W N.length (ex F G.P.xf s))) := by
  intro s
  induction s with
  | snil => intro G W X g hT hp hs hf ok; exact ⟨fun z => no1 rfl z, fun _ => sNil⟩
  | scons a r iha ihr =>
    intro G W X g hT hp hs hf ok
    unfold okS at ok
    simp only [Bool.and_eq_true] at ok
    exact ⟨fun z => no1 rfl z, fun _ => sCons ((iha g hT hp hs hf ok.1.2).1 ok.1.1.1) ((ihr g hT hp hs hf ok.2).2 ok.1.1.2)⟩
  | exp e p =>
    intro G W X g hT hp hs hf ok
    unfold okS at ok
    simp only [Bool.and_eq_true] at ok
    exact ⟨fun _ => sExp g ok.1.2 ok.1.1 ((main e g hT ok.2).e (solid_exp ok.1.1)), fun z => no1 rfl z⟩
  | set i x px e p =>
    intro G W X g hT hp hs hf ok
    unfold okS at ok
    simp only [Bool.and_eq_true, Bool.or_eq_true] at ok
    obtain ⟨⟨⟨h1, h2⟩, h3⟩, h4⟩ := ok
    refine ⟨fun _ => ?_, fun z => no1 rfl z⟩
    rcases h3 with (h3 | h3) | h3
    · exact sSet g h1 (notLc_ok h3 (solid_exp h2) (solid_new h2) _ _ _) ((main e g hT h4).e (solid_exp h2))
    · exact sSet g h1 (lcDiff_ok g h3 (solid_new h2) _) ((main e g hT h4).e (solid_exp h2))
    · cases e with
      | newl l =>
        cases l with
        | lc elt tg it cond own scope q =>
          unfold okE at h4
          rw [Bool.and_eq_true] at h4
          have h4 := h4.2
          unfold okE at h4
          simp only [Bool.and_eq_true, List.all_eq_true, decide_eq_true_eq, Bool.or_eq_true, Bool.not_eq_true'] at h4
          subst hT
          obtain ⟨⟨⟨⟨⟨⟨⟨⟨⟨⟨k1, k2⟩, k3⟩, k4⟩, k4n⟩, k5⟩, k6⟩, k7⟩, k8⟩, k9⟩, k10⟩ := h4
          refine sSetLc g h1 h3.2 h3.1 k6 k4n k4 k5 ((main it g rfl k8).i k1 tg fun z => ?_) (fun X' g' => ?_) fun X' g' => PE.by fun σ H Q ⟨fr, w⟩ => ⟨_, (main elt (g'.wf fr) rfl k9).e k2, w⟩
          · rcases k7 with h | h
            · rw [h] at z; cases z
            · exact h
          · refine ptsO ?_
            cases cond with
            | onone => exact .inl rfl
            | osome e =>
              refine .inr ⟨e, rfl, fun fr => ?_⟩
              rcases (main (.osome e) (g'.wf fr) rfl k10).c rfl with z | ⟨a, z, q⟩
              · cases z
              · cases z; exact q
            | _ => cases k3
        | _ => cases h3.1
      | _ => cases h3.1
  | unp tg e p =>
    intro G W X g hT hp hs hf ok
    unfold okS at ok
    simp only [Bool.and_eq_true] at ok
    obtain ⟨⟨⟨⟨h1, h2⟩, h3⟩, h4⟩, h5⟩ := ok
    exact ⟨fun _ => sUnp g h1 h2 h3 (fun es p z => by subst z; cases h4) ((main e g hT h5).e (solid_exp h3)), fun z => no1 rfl z⟩
  | par l pt es p2 p =>
    intro G W X g hT hp hs hf ok
    unfold okS at ok
    simp only [Bool.and_eq_true] at ok
    exact ⟨fun _ => sPar g ok.1.1 ok.1.2 ((main es g hT ok.2).a ok.1.2), fun z => no1 rfl z⟩
  | fld o f x pf e p =>
    intro G W X g hT hp hs hf ok
    subst hT
    unfold okS at ok
    simp only [Bool.and_eq_true, decide_eq_true_eq] at ok
    obtain ⟨⟨⟨⟨h1, h2⟩, h3⟩, h4⟩, h5⟩ := ok
    exact ⟨fun _ => sFld' g h1 (.inr trivial) h2 ((main o g rfl h4).e h3) ((main e g rfl h5).e (solid_exp h2)), fun z => no1 rfl z⟩
  | fau o f x pf sb e p =>
    intro G W X g hT hp hs hf ok
    subst hT
    unfold okS at ok
    simp only [Bool.and_eq_true, decide_eq_true_eq] at ok
    obtain ⟨⟨⟨⟨h1, h2⟩, h3⟩, h4⟩, h5⟩ := ok
    exact ⟨fun _ => sFau g h1 ((main o g rfl h4).e h3) ((main e g rfl h5).e h2), fun z => no1 rfl z⟩
  | aug i x px sb e p =>
    intro G W X g hT hp hs hf ok
    unfold okS at ok
    simp only [Bool.and_eq_true] at ok
    exact ⟨fun _ => sAug g ok.1.1 ((main e g hT ok.2).e ok.1.2), fun z => no1 rfl z⟩
  | sub o i ps e p =>
    intro G W X g hT hp hs hf ok
    unfold okS at ok
    simp only [Bool.and_eq_true] at ok
    obtain ⟨⟨⟨⟨⟨h1, h2⟩, h3⟩, h4⟩, h5⟩, h6⟩ := ok
    exact ⟨fun _ => sSub g h1 ((main o g hT h4).e h2) ((main i g hT h5).e h3) ((main e g hT h6).e (solid_exp h1)), fun z => no1 rfl z⟩
  | ret e p =>
    intro G W X g hT hp hs hf ok
    unfold okS at ok
    simp only [Bool.and_eq_true] at ok
    exact ⟨fun _ => sRet g ((main e g hT ok.2).e ok.1), fun z => no1 rfl z⟩
  | retn p => intro G W X g hT hp hs hf ok; exact ⟨fun _ => sRetn, fun z => no1 rfl z⟩
  | ife c a b p iha ihb =>
    intro G W X g hT hp hs hf ok
    unfold okS at ok
    simp only [Bool.and_eq_true] at ok
    obtain ⟨⟨⟨⟨⟨h1, h2⟩, h3⟩, h4⟩, h5⟩, h6⟩ := ok
    exact ⟨fun _ => sIf g ((main c g hT h4).t h1) ((iha g hT hp hs hf h5).2 h2) ((ihb g hT hp hs hf h6).2 h3), fun z => no1 rfl z⟩
  | whl c b p ihb =>
    intro G W X g hT hp hs hf ok
    unfold okS at ok
    simp only [Bool.and_eq_true] at ok
    obtain ⟨⟨⟨h1, h2⟩, h3⟩, h4⟩ := ok
    exact ⟨fun _ => sWhl g hp ((main c g hT h3).t h1) ((ihb g hT hp hs hf h4).2 h2), fun z => no1 rfl z⟩
  | loop tg it b p ihb =>
    intro G W X g hT hp hs hf ok
    unfold okS at ok
    simp only [Bool.and_eq_true, Bool.or_eq_true, Bool.not_eq_true'] at ok
    obtain ⟨⟨⟨⟨⟨h1, h2⟩, h3⟩, h4⟩, h5⟩, h6⟩ := ok
    refine ⟨fun _ => sLoop g hp h2 ((main it g hT h5).i h1 tg fun z => ?_) ((ihb g hT hp hs hf h6).2 h4), fun z => no1 rfl z⟩
    rcases h3 with h | h
    · rw [h] at z; cases z
    · exact h
  | brk p => intro G W X g hT hp hs hf ok; exact ⟨fun _ => sBrk, fun z => no1 rfl z⟩
  | cnt p => intro G W X g hT hp hs hf ok; exact ⟨fun _ => sCnt, fun z => no1 rfl z⟩
  | pas p => intro G W X g hT hp hs hf ok; exact ⟨fun _ => sPass, fun z => no1 rfl z⟩
  | rai c x px es pc p =>
    intro G W X g hT hp hs hf ok
    subst hT
    unfold okS at ok
    simp only [Bool.and_eq_true, decide_eq_true_eq] at ok
    obtain ⟨⟨⟨⟨⟨⟨⟨h1, h2⟩, h3⟩, h4⟩, h5⟩, h6⟩, h7⟩, h8⟩ := ok
    refine ⟨fun _ => ?_, fun z => no1 rfl z⟩
    cases es with
    | acons a r =>
      have h7 : alen r + 1 < 900 := h7
      exact sRai g h1 h2 h3 h4 h6 (by omega) ((main _ g rfl h8).a h6)
    | _ => cases h5
  | tryr b c x px i n hr pr ph p ihb =>
    intro G W X g hT hp hs hf ok
    subst hT
    unfold okS at ok
    simp only [Bool.and_eq_true, decide_eq_true_eq] at ok
    obtain ⟨⟨⟨⟨⟨⟨⟨⟨h1, h2⟩, h3⟩, h4⟩, h5⟩, h6⟩, h7⟩, h8⟩, h9⟩ := ok
    refine ⟨fun _ => ?_, fun z => no1 rfl z⟩
    cases hl : G.P.xf c with
    | none =>
      have : G.sd.xf c = none := hl
      rw [this] at h2
      cases h2
    | some l =>
      have : G.sd.xf c = some l := hl
      rw [this] at h2
      exact sTry g hs hf h1 hl h3 h4 h5 h6 h7 h2 fun W' pn xe g' po => (ihb g' rfl po hs hf h9).2 h8
end Ms

/-! Defs: every call of the machine in the model. -/
namespace Ms
open PySem PySem.Spec PyProof.Rows L2 Mx

/-- a def of the text -/
structure FnF (G : GL) (f : Nat) (fn : Fn) : Prop where
  ex : ∃ (x qual : Str) (params : Arguments) (scope : Scope) (N : List Str) (dvs : List V) (kws : List (Str × V)), FunD G.K x qual params fn.body.srcs scope dvs kws (G.FA f) (G.FD f) ∧ FnScope N (G.PS f) scope ∧ okS G.sd N scope.names fn.body = true ∧ fn.n = N.length ∧ scope.names ≠ G.lsc
  bk : isBk fn.body = true
  np : fn.np = (G.PS f).length
/-- an error's maker -/
structure XF (G : GL) (c : Nat) (l : List Nat) : Prop where
  ex : ∃ (x qual : Str) (params : Arguments) (scope : Scope) (dvs : List V) (kws : List (Str × V)) (body : List Stmt), FunD G.K x qual params body scope dvs kws (G.XA c) (G.XD c) ∧
    ((∃ (i : Nat) (self a y : Str) (q1 q2 q3 q4 : Pos), l = [i] ∧ G.nms[i]? = some y ∧ G.XS c = [self, a] ∧ FnScope [self, a] [self, a] scope ∧ plainN self = true ∧ plainN a = true ∧ scope.names.lookup self = some .local ∧ scope.names.lookup a = some .local ∧
      body = [.Assign [.Attribute (.Name self q1) y q2] (.Name a q3) q4]) ∨
    ∃ (i j : Nat) (self a b y z : Str) (q1 q2 q3 q4 r1 r2 r3 r4 : Pos), l = [i, j] ∧ G.nms[i]? = some y ∧ G.nms[j]? = some z ∧ G.XS c = [self, a, b] ∧ FnScope [self, a, b] [self, a, b] scope ∧ plainN self = true ∧ plainN a = true ∧ plainN b = true ∧ scope.names.lookup self = some .local ∧ scope.names.lookup a = some .local ∧ scope.names.lookup b = some .local ∧
      body = [.Assign [.Attribute (.Name self q1) y q2] (.Name a q3) q4, .Assign [.Attribute (.Name self r1) z r2] (.Name b r3) r4])
/-- the whole program -/
structure PF (G : GL) : Prop where
  gf : GF G
  fn : ∀ f fn, G.P.fn f = some fn → FnF G f fn
  xf : ∀ c l, G.P.xf c = some l → XF G c l
section
variable {G : GL} {P : Program} {w : World} {base : Heap}
theorem nmI_of {i : Nat} {y : Str} (h : G.nms[i]? = some y) : nmI G i = y := by
  unfold nmI
  rw [List.getD_eq_getElem?_getD, h]
  rfl
theorem xinit (pf : PF G) {c : Nat} {l : List Nat} (hl : G.P.xf c = some l) (k : Nat) : FnOk P w G.K G.mg base (L2.CX P w) (k + 1) (G.XA c) (G.XD c) (G.XS c) (spX G c l) := by
  obtain ⟨x, qual, params, scope, dvs, kws, body, F, hcase⟩ := (pf.xf c l hl).ex
  obtain ⟨T, _, _, _, _, z1, z2⟩ := pf.gf.xcl c l hl
  rcases hcase with ⟨i, self, a, y, q1, q2, q3, q4, rfl, hy, hS, sc, n1, n2, l1, l2, rfl⟩ | ⟨i, j, self, a, b, y, z, q1, q2, q3, q4, r1, r2, r3, r4, rfl, hy, hz, hS, sc, n1, n2, n3, l1, l2, l3, rfl⟩
  · have hno := pf.gf.xno c [i] i y hl List.mem_cons_self hy
    rw [hS]
    refine F.ok sc (fun vs H Q E h => ?_) (fun cdv A outer s H vs Q E hr h => ⟨_, pss_one (ps_ost (pe_var (i := 0) rfl (.inl l1) (plainN1 n1) (plainN2 n1)) (pe_var (i := 1) rfl (.inl l2) (plainN1 n2) (plainN2 n2)) rfl), ?_⟩)
    · obtain ⟨h1, _⟩ := h
      exact h1
    · obtain ⟨h1, e, ws, rfl, he, q⟩ := h
      obtain ⟨v, rfl⟩ := len1 (show ws.length = 1 from by rw [List.length_cons] at h1; exact Nat.succ.inj h1)
      refine ⟨v, rfl, .ref e, rfl, e, G.cA c, rfl, T, hno, .inl ⟨he, fun dx h1 h2 => ?_⟩⟩
      have := q dx h1 h2
      show Q .non _
      rw [show ([i].map (nmI G)).zip [v] = [(y, v)] from by show [(nmI G i, v)] = _; rw [nmI_of hy]] at this
      exact this
  · have hno1 := pf.gf.xno c [i, j] i y hl List.mem_cons_self hy
    have hno2 := pf.gf.xno c [i, j] j z hl (List.mem_cons_of_mem _ List.mem_cons_self) hz
    rw [hS]
    refine F.ok sc (fun vs H Q E h => ?_) (fun cdv A outer s H vs Q E hr h => ⟨_, pss_cons (ps_ost (pe_var (i := 0) rfl (.inl l1) (plainN1 n1) (plainN2 n1)) (pe_var (i := 1) rfl (.inl l2) (plainN1 n2) (plainN2 n2)) rfl)
      (pss_one (ps_ost (pe_var (i := 0) rfl (.inl l1) (plainN1 n1) (plainN2 n1)) (pe_var (i := 2) rfl (.inl l3) (plainN1 n3) (plainN2 n3)) rfl)), ?_⟩)
    · obtain ⟨h1, _⟩ := h
      exact h1
    · obtain ⟨h1, e, ws, rfl, he, q⟩ := h
      obtain ⟨v, u, rfl⟩ := len2 (show ws.length = 2 from by rw [List.length_cons] at h1; exact Nat.succ.inj h1)
      refine ⟨v, rfl, .ref e, rfl, e, G.cA c, rfl, T, hno1, .inl ⟨he, fun dx h1 h2 => ?_⟩⟩
      refine ⟨u, rfl, .ref e, rfl, e, G.cA c, rfl, T, hno2, .inr ⟨dx, [(y, v)], upd_same, by rw [upd_ne h2, upd_same], by show 1 ≤ 900; decide, ?_⟩⟩
      have := q dx h1 h2
      rw [show ([i, j].map (nmI G)).zip [v, u] = [(y, v), (z, u)] from by show [(nmI G i, v), (nmI G j, u)] = _; rw [nmI_of hy, nmI_of hz]] at this
      have e1 : upd (upd (upd H dx (exd dx [(y, v)])) e (exo e (G.cA c) (some dx))) dx (exd dx ((z, u) :: [(y, v)])) = upd (upd H dx (exd dx [(y, v), (z, u)].reverse)) e (exo e (G.cA c) (some dx)) := by
        funext t
        by_cases ht : t = dx
        · subst ht; rw [upd_same, upd_ne h2, upd_same]; rfl
        · rw [upd_ne ht]
          by_cases hte : t = e
          · subst hte; rw [upd_same, upd_same]
          · rw [upd_ne hte, upd_ne hte, upd_ne ht, upd_ne ht]
      show Q .non _
      rw [e1]
      exact this
/-- nothing is promised of what is not called -/
theorem fnNo {k f n : Nat} {fd : FuncData} {ps : List Str} {a : Addr} : FnOk P w G.K G.mg base (L2.CX P w) k a fd ps (spM G (noF f) ps.length) := ⟨fun vs H Q E h => h.1, fun A outer s H args us vs Q E _ _ _ _ h => by
  obtain ⟨_, fr, ρ, ds, h, _, _, p⟩ := h
  exact p.elim⟩
theorem ends_ok {E : XK} {ρ : Rho} {H : Hp} {Q : VK} {r : Rs Fl} {W : WX} {n : Nat} (hW : ∀ c d H, E c d H → wL W n c d H) (p : Pst G E ρ H (ends r) (pV G Q)) : Pst G (wL W n) ρ H r (pS G { nx := fun _ H' => Q .non H', rt := Q }) := by
  cases r with
  | ok f h =>
    cases f with
    | nx s => exact fun ρ' H' pre kp hr σ _ => p ρ' H' pre kp hr .non R.ofNon
    | rt d => exact fun ρ' H' pre kp hr v r => p ρ' H' pre kp hr v r
    | bk s => exact p.elim
    | ct s => exact p.elim
  | ex c fs h => exact fun ρ' H' e gs pre kp hr he xr => hW _ _ _ (p ρ' H' e gs pre kp hr he xr)
  | no => exact p.elim
theorem runOk (pf : PF G) {k f : Nat} {F : Cf} (hmd : F.md = G.P.md) (hini : F.ini = G.P.ini)
    (hcf : ∀ f, FnOk P w G.K G.mg base (L2.CX P w) (k + 1) (G.FA f) (G.FD f) (G.PS f) (spM G (F.cf f) (G.PS f).length)) (hcf0 : ∀ f ds h, (G.P.fn f = none ∨ ds.length ≠ (G.PS f).length) → F.cf f ds h = .no)
    (hmf : ∀ f, FnOk P w G.K G.mg base (L2.CX P w) k (G.FA f) (G.FD f) (G.PS f) (spM G (F.mf f) (G.PS f).length)) (hmf0 : ∀ f ds h, (G.P.fn f = none ∨ ds.length ≠ (G.PS f).length) → F.mf f ds h = .no) (hk : 1 ≤ k) :
    FnOk P w G.K G.mg base (L2.CX P w) (k + 2) (G.FA f) (G.FD f) (G.PS f) (spM G (runF G.P F f) (G.PS f).length) := by
  cases hf : G.P.fn f with
  | none =>
    refine ⟨fun vs H Q E h => h.1, fun A outer s H args us vs Q E _ _ _ _ h => ?_⟩
    obtain ⟨_, fr, ρ, ds, h, _, _, p⟩ := h
    unfold runF at p
    rw [hf] at p
    exact p.elim
  | some fn =>
    obtain ⟨x, qual, params, scope, N, dvs, kws, FD', sc, ok, hn, hne⟩ := (pf.fn f fn hf).ex
    refine FD'.ok sc (fun vs H Q E h => h.1) (fun cdv A outer s H vs Q E hr h => ?_)
    obtain ⟨h1, fr, ρ, ds, h0, hr0, rl, p⟩ := h
    have tk : Takes (cxOf (L2.CX P w) P w G.K G.mg base N qual scope (G.FA f) cdv A outer s H E) (fun cls d _ H => E cls d H) := takes_of rfl rfl rfl rfl
    have g0 : GX G F N scope.names (fun cls d _ H => E cls d H) (cxOf (L2.CX P w) P w G.K G.mg base N qual scope (G.FA f) cdv A outer s H E) := {
      gf := pf.gf
      K := rfl
      mg := rfl
      calm := rfl
      hN := rfl
      nd := sc.nd
      sco := ⟨fun x h => h, fun x h => ⟨h, rfl⟩, fun x h => .inr h, fun x h => h⟩
      tk := tk
      md := hmd
      ini := hini
      cf := ⟨k + 1, hr, fun f => ⟨hcf f, hcf0 f⟩⟩
      mf := ⟨k, hr, fun f => ⟨hmf f, hmf0 f⟩⟩
      xk := ⟨1, hr.mono (by omega), fun c l hl => xinit pf hl 0⟩
      lm := fun e => absurd e hne }
    refine ⟨_, (mainS fn.body (g0.wf fr) rfl (passes_of rfl) rfl rfl ok).2 (pf.fn f fn hf).bk, ρ, sl0 fn ds, h0, SR.start rl hn, hr0, ?_⟩
    unfold runF at p
    rw [hf] at p
    obtain ⟨_, p⟩ := Pst.ite (c := ds.length = fn.np ∧ fn.np ≤ fn.n) p
    exact ends_ok (G := G.wf fr) (fun c d H' z σ _ => z) p
theorem run_no (pf : PF G) {F : Cf} {f : Nat} {ds : List D} {h : AH} (e : G.P.fn f = none ∨ ds.length ≠ (G.PS f).length) : runF G.P F f ds h = .no := by
  unfold runF
  cases hf : G.P.fn f with
  | none => rfl
  | some fn =>
    rcases e with e | e
    · rw [hf] at e; cases e
    · have := (pf.fn f fn hf).np
      show (if ds.length = fn.np ∧ fn.np ≤ fn.n then _ else _) = _
      rw [if_neg (fun z => e (z.1.trans this))]
theorem call_no (pf : PF G) : ∀ (k : Nat) {f : Nat} {ds : List D} {h : AH}, (G.P.fn f = none ∨ ds.length ≠ (G.PS f).length) → Mx.call G.P k f ds h = .no
  | 0, _, _, _, _ => rfl
  | 1, _, _, _, e => run_no pf e
  | k + 2, _, _, _, e => run_no pf e
/-- EVERY CALL -/
theorem callOk (pf : PF G) : ∀ (k : Nat) (f : Nat), FnOk P w G.K G.mg base (L2.CX P w) (k + 2) (G.FA f) (G.FD f) (G.PS f) (spM G (Mx.call G.P k f) (G.PS f).length)
  | 0, f => fnNo (n := 0) (f := f)
  | 1, f => runOk (k := 1) pf rfl rfl (fun f => fnNo (n := 0) (f := f)) (fun _ _ _ _ => rfl) (fun f => fnNo (n := 0) (f := f)) (fun _ _ _ _ => rfl) (Nat.le_refl _)
  | k + 2, f => runOk (k := k + 2) pf rfl rfl (fun f => callOk pf (k + 1) f) (fun f ds h e => call_no pf (k + 1) e) (fun f => callOk pf k f) (fun f ds h e => call_no pf k e) (by omega)
/-- the law's own def: it may make lambdas -/
structure LawF (G : GL) (base : Heap) (f : Addr) (fd : FuncData) (ps : List Str) (fn : Fn) : Prop where
  ex : ∃ (x qual : Str) (params : Arguments) (scope : Scope) (N : List Str) (dV kV doc pm cdv ct oc : Value) (an od : Option Addr) (osl : Array (Option Value)),
    fd = PySem.W.fnOf x qual params fn.body.srcs scope dV kV doc pm an cdv ct ∧ G.K.lookup f = some ⟨oc, od, .func fd, osl⟩ ∧ PySem.W.codeIn G.K cdv qual = true ∧ FnScope N ps scope ∧ okS G.sd N scope.names fn.body = true ∧ fn.n = N.length ∧
    (scope.names = G.lsc → RefD G G.lrf.1 G.lrf.2.1 G.lrf.2.2 ∧ ∃ (c Pt : Addr), cdv = .ref c ∧ LamX.TabB base G.mg c Pt ∧ (∀ (n : Nat) (ff : Addr), (Pt, (envOfC qual scope n ff cdv).qual ++ "<lambda>") ∈ G.T ∧ ∀ p ∈ G.T, p.1 = Pt → p.2 = (envOfC qual scope n ff cdv).qual ++ "<lambda>"))
  bk : isBk fn.body = true
  np : fn.np = ps.length
/-- what the machine makes of the law at a depth -/
def lawM (G : GL) (fn : Fn) (k : Nat) (ds : List D) (h : AH) : Rs D := ends (ex ⟨Mx.call G.P (k + 1), Mx.call G.P k, G.P.md, G.P.ini⟩ G.P.xf fn.body (sl0 fn ds) h)
theorem lawOk (pf : PF G) {f : Addr} {fd : FuncData} {ps : List Str} {fn : Fn} (lf : LawF G base f fd ps fn) (k : Nat) : FnOk P w G.K G.mg base (L2.CX P w) (k + 6) f fd ps (spM G (lawM G fn k) ps.length) := by
  obtain ⟨x, qual, params, scope, N, dV, kV, doc, pm, cdv, ct, oc, an, od, osl, rfl, lk, hcd, sc, ok, hn, hlam⟩ := lf.ex
  refine fn_of lk hcd sc (fun vs H Q E h => h.1) fun A outer s H vs Q E hr h => ?_
  obtain ⟨h1, fr, ρ, ds, h0, hr0, rl, p⟩ := h
  have tk : Takes (cxOf (L2.CX P w) P w G.K G.mg base N qual scope f cdv A outer s H E) (fun cls d _ H => E cls d H) := takes_of rfl rfl rfl rfl
  have g0 : GX G ⟨Mx.call G.P (k + 1), Mx.call G.P k, G.P.md, G.P.ini⟩ N scope.names (fun cls d _ H => E cls d H) (cxOf (L2.CX P w) P w G.K G.mg base N qual scope f cdv A outer s H E) := {
    gf := pf.gf
    K := rfl
    mg := rfl
    calm := rfl
    hN := rfl
    nd := sc.nd
    sco := ⟨fun x h => h, fun x h => ⟨h, rfl⟩, fun x h => .inr h, fun x h => h⟩
    tk := tk
    md := rfl
    ini := rfl
    cf := ⟨k + 3, hr.mono (by omega), fun f => ⟨callOk pf (k + 1) f, fun ds h e => call_no pf (k + 1) e⟩⟩
    mf := ⟨k + 2, hr.mono (by omega), fun f => ⟨callOk pf k f, fun ds h e => call_no pf k e⟩⟩
    xk := ⟨1, hr.mono (by omega), fun c l hl => xinit pf hl 0⟩
    lm := fun e => by
      obtain ⟨rd, c, Pt, e1, tb, e2⟩ := hlam e
      exact ⟨rd, k + 2, c, Pt, hr, by omega, tb, e1, (e2 _ _).1, (e2 _ _).2, fun f => ⟨callOk pf (k + 1) f, fun ds h e => call_no pf (k + 1) e⟩, fun f => ⟨callOk pf k f, fun ds h e => call_no pf k e⟩, fun c l hl => xinit pf hl 0⟩ }
  refine ⟨_, (mainS fn.body (g0.wf fr) rfl (passes_of rfl) rfl rfl ok).2 lf.bk, ρ, sl0 fn ds, h0, SR.start rl hn, hr0, ?_⟩
  exact ends_ok (G := G.wf fr) (fun c d H' z σ _ => z) p
end
end Ms

/-! The head: what the module's run tells, by one Bool; the program of the machine from it. -/
namespace Ms
open PySem PySem.Spec PyProof.Rows L2 Mx

/-! ### data -/
structure HDat where
  fnl : List (Nat × Fn)
  mdl : List ((Nat × Nat) × Nat)
  inl : List (Nat × Nat)
  xfl : List (Nat × List Nat)
  xil : List (Nat × Nat)
  nms : List Str
  clss : List Str
  ats : List (Str × Option Str)
  pss : List (List Str)
  cons : List (Str × D)
  lsc : List (Str × NameKind)
  lrf : Str × Nat × Nat
  kws : List (Nat × Nat × List Str)
def HDat.prog (h : HDat) : Pr := ⟨fun f => h.fnl.lookup f, fun c m => h.mdl.lookup (c, m), fun c => h.inl.lookup c, fun c => h.xfl.lookup c⟩
def fdNo : FuncData := PySem.W.fnOf Str.empty Str.empty noArgs [] ⟨.function, [], false, false, []⟩ .none .none .none .none none .none .none
def fdAt (K : PySem.W.Frag) (a : Addr) : FuncData := match K.lookup a with
  | some ⟨_, _, .func fd, _⟩ => fd
  | _ => fdNo
def HDat.cls (h : HDat) (c : Nat) : Str := h.clss.getD c Str.empty
def HDat.at_ (h : HDat) (f : Nat) : Str × Option Str := h.ats.getD f (Str.empty, none)
def lamQ : Str := (envOfC "law" ⟨.function, [], false, false, []⟩ 0 0 .none).qual ++ "<lambda>"
def HDat.xi (h : HDat) (c : Nat) : Nat := (h.xil.lookup c).getD 0
def HDat.gl (h : HDat) (K : PySem.W.Frag) (mg : Str → Option Value) : GL where
  K := K
  mg := mg
  P := h.prog
  nms := h.nms
  cA := fun c => He.ga K (h.cls c)
  FA := fun f => He.fAd K (h.at_ f)
  FD := fun f => fdAt K (He.fAd K (h.at_ f))
  PS := fun f => h.pss.getD f []
  cN := fun c => h.clss[c]?
  fN := fun f => match h.ats[f]? with
    | some (x, none) => some x
    | _ => none
  cons := h.cons
  T := [((He.cT K ("law", none)).2, lamQ)]
  XA := fun c => He.fAd K (h.at_ (h.xi c))
  XD := fun c => fdAt K (He.fAd K (h.at_ (h.xi c)))
  XS := fun c => h.pss.getD (h.xi c) []
  lsc := h.lsc
  lrf := h.lrf
  kws := h.kws
  fr := []
def HDat.sd (h : HDat) : SD := ⟨h.nms, h.cons, fun f => match h.ats[f]? with
    | some (x, none) => some x
    | _ => none, fun c => h.clss[c]?, h.prog.ini, h.prog.md, h.prog.xf, h.lsc, h.lrf, h.kws⟩
theorem sd_eq (h : HDat) (K : PySem.W.Frag) (mg : Str → Option Value) : (h.gl K mg).sd = h.sd := rfl
/-! ### what is looked at -/
def oexB (K : PySem.W.Frag) (C : Addr) : Bool := (match K.lookup C with
  | some ⟨.type "type", _, .cls cd, sl⟩ => (match cd.mro, sl.toList with
    | .ref C' :: bm, [_, _, _, _, some (.builtin n), _] => C' == C && n == "ValueError.__new__" && !cd.hasDel && cd.hasDict && PySem.HandSPX.refsVE bm
    | _, _ => false)
  | _ => false) && decide (PySem.W.findIn K (.ref C) "__setattr__" = some (some (.builtin "object.__setattr__"))) && decide (PySem.W.subIn K (.ref C) (.type "BaseException") = some true) && decide (PySem.W.typeIn K (.ref C) = some (.type "type")) && PySem.W.keepIn K (.ref C)
theorem oexB_ok {K : PySem.W.Frag} {C : Addr} (h : oexB K C = true) : OexC K C := by
  unfold oexB at h
  simp only [Bool.and_eq_true, decide_eq_true_eq] at h
  obtain ⟨⟨⟨⟨q, h2⟩, h3⟩, h4⟩, h5⟩ := h
  refine ⟨?_, h2, h3, h4, h5⟩
  split at q
  · rename_i dd cd sl ho
    split at q
    · rename_i C' bm k0 k1 k2 k3 n k5 hm hs
      simp only [Bool.and_eq_true, beq_iff_eq, Bool.not_eq_true'] at q
      obtain ⟨⟨⟨⟨rfl, rfl⟩, hdel⟩, hd⟩, ht⟩ := q
      obtain ⟨nm, bs, mro, ns, qn, hdd, sn, sub, ab, col, del⟩ := cd
      dsimp only at hm hdel hd
      subst hm hdel hd
      have hsl : sl = #[k0, k1, k2, k3, some (.builtin "ValueError.__new__"), k5] := by
        obtain ⟨l⟩ := sl
        simp only at hs
        rw [hs]
      subst hsl
      exact ⟨nm, qn, ns, bs, bm, sn, sub, ab, col, dd, k0, k1, k2, k3, k5, ho, ht⟩
    · cases q
  · cases q
mutual
/-- a constant's value -/
def relDB (K : PySem.W.Frag) : D → Value → Bool
  | .non, u => u == .none
  | .bl b, u => u == .bool b
  | .int i, .int j _ => decide (j = i)
  | .str x, .str y _ => decide (y = sS x)
  | .tup ds, .ref a => match K.lookup a with
    | some ⟨.type c, _, .seq its _, _⟩ => decide (c = "tuple") && decide (its.size ≤ sizeLine) && relDsB K ds its.toList
    | _ => false
  | _, _ => false
def relDsB (K : PySem.W.Frag) : List D → List Value → Bool
  | [], [] => true
  | d :: ds, u :: us => relDB K d u && relDsB K ds us
  | _, _ => false
end
mutual
theorem relDB_ok {K : PySem.W.Frag} : ∀ {d : D} {u : Value}, relDB K d u = true → ∃ v, RelV v u ∧ ∀ ρ H, R K ρ H d v
  | .non, u, h => by
    unfold relDB at h
    exact ⟨.non, beq_iff_eq.mp h, fun _ _ => R.ofNon⟩
  | .bl b, u, h => by
    unfold relDB at h
    exact ⟨.bl b, beq_iff_eq.mp h, fun _ _ => R.ofBl b⟩
  | .int i, u, h => by
    cases u with
    | int j t =>
      unfold relDB at h
      cases of_decide_eq_true h
      exact ⟨.int i, ⟨t, rfl⟩, fun _ _ => R.ofInt i⟩
    | _ => unfold relDB at h; cases h
  | .str x, u, h => by
    cases u with
    | str y t =>
      unfold relDB at h
      have e := of_decide_eq_true h
      subst e
      exact ⟨.str (sS x), ⟨t, rfl⟩, fun _ _ => R.ofStr x⟩
    | _ => unfold relDB at h; cases h
  | .tup ds, u, h => by
    cases u with
    | ref a =>
      unfold relDB at h
      split at h
      · rename_i c od its n sl hk
        simp only [Bool.and_eq_true, decide_eq_true_eq] at h
        obtain ⟨⟨h1, h2⟩, h3⟩ := h
        obtain ⟨vs, rv, rl⟩ := relDsB_ok h3
        refine ⟨.ref a, rfl, fun ρ H => R.ofTup (.inr ⟨_, its, n, hk, congrArg Value.type h1, rfl, h2, rv⟩) (rl ρ H)⟩
      · cases h
    | _ => unfold relDB at h; cases h
  | .ref l, u, h => by unfold relDB at h; cases h
theorem relDsB_ok {K : PySem.W.Frag} : ∀ {ds : List D} {us : List Value}, relDsB K ds us = true → ∃ vs, Vals vs us ∧ ∀ ρ H, RL K ρ H ds vs
  | [], [], _ => ⟨[], .nil, fun _ _ => RL.nil⟩
  | [], _ :: _, h => by unfold relDsB at h; cases h
  | _ :: _, [], h => by unfold relDsB at h; cases h
  | d :: ds, u :: us, h => by
    unfold relDsB at h
    rw [Bool.and_eq_true] at h
    obtain ⟨v, r1, r2⟩ := relDB_ok h.1
    obtain ⟨vs, r3, r4⟩ := relDsB_ok h.2
    exact ⟨v :: vs, .cons r1 r3, fun ρ H => RL.cons (r2 ρ H) (r4 ρ H)⟩
end
def HDat.nm (h : HDat) (i : Nat) : Str := h.nms.getD i Str.empty
def hB (h : HDat) (K : PySem.W.Frag) : Bool :=
  (h.ats.all fun a => match a.2 with
    | none => He.Fa.ok K (.glo a.1)
    | some _ => true) &&
  (h.clss.all fun x => He.Fa.ok K (.glo x)) &&
  (h.inl.all fun p => He.Fa.ok K (.cls (h.cls p.1)) && He.Fa.ok K (.mkr (h.cls p.1)) && decide (He.ma K (He.ga K (h.cls p.1)) "__init__" = He.fAd K (h.at_ p.2)) && (List.range h.nms.length).all fun i => (h.mdl.lookup (p.1, i)).isSome || He.Fa.ok K (.noat (h.cls p.1) (h.nm i))) &&
  (h.mdl.all fun p => He.Fa.ok K (.meth (h.cls p.1.1) (h.nm p.1.2)) && He.Fa.ok K (.cls (h.cls p.1.1)) && decide (He.ma K (He.ga K (h.cls p.1.1)) (h.nm p.1.2) = He.fAd K (h.at_ p.2))) &&
  (bltNames.all fun x => He.Fa.ok K (.free x)) &&
  (h.xfl.all fun p => oexB K (He.ga K (h.cls p.1)) && xfB K (He.ga K (h.cls p.1)) && decide (PySem.W.findIn K (.ref (He.ga K (h.cls p.1))) "__init__" = some (some (.ref (He.fAd K (h.at_ (h.xi p.1)))))) && decide (PySem.W.typeIn K (.ref (He.fAd K (h.at_ (h.xi p.1)))) = some (.type "function")) && p.2.all fun i => decide (PySem.W.findIn K (.ref (He.ga K (h.cls p.1))) (h.nm i) = some none)) &&
  (h.xfl.all fun a => h.xfl.all fun b => decide (PySem.W.exmOne K (.ref (He.ga K (h.cls a.1))) (.ref (He.ga K (h.cls b.1))) = some (decide (a.1 = b.1)))) &&
  (h.cons.all fun p => match PySem.W.nsIn K mainGlobals p.1 with
    | some (some u) => relDB K p.2 u
    | _ => false)
/-! ### what is fixed -/
/-- a def's data: params given all -/
structure FnS (h : HDat) (fn : Fn) (ps : List Str) (d : He.DefD) : Prop where
  ex : ∃ N, FnScope N ps d.scope ∧ okS h.sd N d.scope.names fn.body = true ∧ fn.n = N.length ∧ d.scope.names ≠ h.lsc
  body : d.body = fn.body.srcs
  bk : isBk fn.body = true
  np : fn.np = ps.length
def BindS (ps : List Str) (d : He.DefD) : Prop := d.dfl = [] ∧ ∀ (kV doc pm : Value) (an : Option Addr) (cdv ct : Value) (us : List Value), us.length = ps.length → bindArgs (PySem.W.fnOf d.name d.qual d.params d.body d.scope .none kV doc pm an cdv ct) ⟨us, []⟩ = pure (ps.zip us)
/-- an error's maker -/
def XfS (h : HDat) (c : Nat) (l : List Nat) (d : He.DefD) : Prop :=
    ((∃ (i : Nat) (self a y : Str) (q1 q2 q3 q4 : Pos), l = [i] ∧ h.nms[i]? = some y ∧ h.pss.getD (h.xi c) [] = [self, a] ∧ FnScope [self, a] [self, a] d.scope ∧ plainN self = true ∧ plainN a = true ∧ d.scope.names.lookup self = some .local ∧ d.scope.names.lookup a = some .local ∧
      d.body = [.Assign [.Attribute (.Name self q1) y q2] (.Name a q3) q4]) ∨
    ∃ (i j : Nat) (self a b y z : Str) (q1 q2 q3 q4 r1 r2 r3 r4 : Pos), l = [i, j] ∧ h.nms[i]? = some y ∧ h.nms[j]? = some z ∧ h.pss.getD (h.xi c) [] = [self, a, b] ∧ FnScope [self, a, b] [self, a, b] d.scope ∧ plainN self = true ∧ plainN a = true ∧ plainN b = true ∧ d.scope.names.lookup self = some .local ∧ d.scope.names.lookup a = some .local ∧ d.scope.names.lookup b = some .local ∧
      d.body = [.Assign [.Attribute (.Name self q1) y q2] (.Name a q3) q4, .Assign [.Attribute (.Name self r1) z r2] (.Name b r3) r4])
structure HOk (h : HDat) (ds : List He.DefD) : Prop where
  nnd : h.nms.Nodup
  fn : ∀ f fn, (f, fn) ∈ h.fnl → ∃ d, d ∈ ds ∧ d.at_ = h.at_ f ∧ FnS h fn (h.pss.getD f []) d ∧ BindS (h.pss.getD f []) d
  fns : ∀ f x, h.ats[f]? = some (x, none) → ∃ d, d ∈ ds ∧ d.at_ = h.at_ f
  xf : ∀ c l, (c, l) ∈ h.xfl → xfl l = true ∧ (∀ i ∈ l, i < h.nms.length) ∧ ∃ d, d ∈ ds ∧ d.at_ = h.at_ (h.xi c) ∧ XfS h c l d ∧ BindS (h.pss.getD (h.xi c) []) d
  kb : ∀ f m ks, (f, m, ks) ∈ h.kws → ∃ d, d ∈ ds ∧ d.at_ = h.at_ f ∧ d.dfl = [] ∧ ∀ (kV doc pm : Value) (an : Option Addr) (cdv ct : Value) (us ws : List Value), us.length = m → ws.length = ks.length → bindArgs (PySem.W.fnOf d.name d.qual d.params d.body d.scope .none kV doc pm an cdv ct) ⟨us, ks.zip ws⟩ = pure ((h.pss.getD f []).zip (us ++ ws))
theorem mem_of_lk {α β : Type} [BEq α] [LawfulBEq α] {a : α} {b : β} : ∀ {l : List (α × β)}, l.lookup a = some b → (a, b) ∈ l
  | [], e => by cases e
  | (x, y) :: r, e => by
    rw [List.lookup_cons] at e
    cases hx : (a == x) with
    | true =>
      rw [hx] at e
      cases e
      rw [beq_iff_eq.mp hx]
      exact List.mem_cons_self
    | false =>
      rw [hx] at e
      exact List.mem_cons_of_mem _ (mem_of_lk e)
theorem fd_eq {K : PySem.W.Frag} {x qual : Str} {params : Arguments} {body : List Stmt} {scope : Scope} {dvs : List V} {kws : List (Str × V)} {f : Addr} {fd : FuncData} (F : FunD K x qual params body scope dvs kws f fd) : fdAt K f = fd := by
  obtain ⟨oc, od, dV, kV, doc, pm, an, cdv, ct, osl, rfl, lk, _⟩ := F.ex
  unfold fdAt
  rw [lk]
section
variable {h : HDat} {ds : List He.DefD} {K : PySem.W.Frag} {hp : Heap} {mg : Str → Option Value}
theorem def_at (c : He.SaysD [] ds K) {d : He.DefD} (hd : d ∈ ds) (hz : d.dfl = []) : FunD K d.name d.qual d.params d.body d.scope [] (d.kws K) (He.fAd K d.at_) (fdAt K (He.fAd K d.at_)) := by
  obtain ⟨fd, F⟩ := c.defs hd
  rw [fd_eq F]
  have e : d.dvs K = [] := by unfold He.DefD.dvs; rw [hz]; rfl
  rw [e] at F
  exact F
theorem bind_at (c : He.SaysD [] ds K) {d : He.DefD} {ps : List Str} (hd : d ∈ ds) (b : BindS ps d) : Binds K (fdAt K (He.fAd K d.at_)) ps [] := (def_at c hd b.1).bindsN b.2
theorem pf_of (ok : HOk h ds) (c : He.SaysD [] ds K) (X : K.In hp) (Gm : hp.Ns mainGlobals mg) (hb : hB h K = true) : PF (h.gl K mg) := by
  unfold hB at hb
  simp only [Bool.and_eq_true, List.all_eq_true] at hb
  obtain ⟨⟨⟨⟨⟨⟨⟨b1, b2⟩, b3⟩, b4⟩, b5⟩, b6⟩, b7⟩, b8⟩ := hb
  have atE : ∀ {f : Nat} {a : Str × Option Str}, h.ats[f]? = some a → h.at_ f = a := fun {f a} e => by
    unfold HDat.at_; rw [List.getD_eq_getElem?_getD, e]; rfl
  have clE : ∀ {c : Nat} {x : Str}, h.clss[c]? = some x → h.cls c = x := fun {c x} e => by
    unfold HDat.cls; rw [List.getD_eq_getElem?_getD, e]; rfl
  have nmE : ∀ {i : Nat} {x : Str}, h.nms[i]? = some x → h.nm i = x := fun {c x} e => by
    unfold HDat.nm; rw [List.getD_eq_getElem?_getD, e]; rfl
  have gf : GF (h.gl K mg) := {
    nnd := ok.nnd
    glo := fun x d e => by
      have z := b8 _ (mem_of_lk e)
      dsimp only at z
      split at z
      · rename_i u hu
        obtain ⟨v, r1, r2⟩ := relDB_ok z
        exact ⟨u, v, PySem.W.mg_of X Gm hu, r1, r2⟩
      · cases z
    fn := fun f x e => by
      have e : (match h.ats[f]? with
        | some (x, none) => some x
        | _ => none) = some x := e
      split at e
      · rename_i y hy
        cases e
        have z := b1 _ (List.mem_of_getElem? hy)
        obtain ⟨d, hd, hat⟩ := ok.fns f x hy
        obtain ⟨fd, F⟩ := c.defs hd
        refine ⟨?_, ?_⟩
        · show mg x = some (.ref (He.fAd K (h.at_ f)))
          rw [atE hy]
          exact He.glo_ok X Gm z
        · show PySem.W.keepIn K (.ref (He.fAd K (h.at_ f))) = true
          rw [← hat]
          exact F.kp
      · cases e
    bin := fun f e => by
      have e : h.fnl.lookup f ≠ none := e
      cases hf : h.fnl.lookup f with
      | none => exact absurd hf e
      | some fn =>
        obtain ⟨d, hd, hat, _, hbd⟩ := ok.fn f fn (mem_of_lk hf)
        have := bind_at c hd hbd
        rw [hat] at this
        exact this
    cls := fun c' x e => by
      have z := b2 _ (List.mem_of_getElem? e)
      show mg x = some (.ref (He.ga K (h.cls c')))
      rw [clE e]
      exact He.glo_ok X Gm z
    ins := fun c' f e => by
      obtain ⟨⟨⟨z1, z2⟩, z3⟩, z4⟩ := b3 _ (mem_of_lk e)
      have m := He.mkr_ok z2
      have z3 := of_decide_eq_true z3
      exact ⟨He.cls_ok z1, by rw [z3] at m; exact m⟩
    nat := fun c' g f x e1 e2 e3 => by
      obtain ⟨⟨⟨z1, z2⟩, z3⟩, z4⟩ := b3 _ (mem_of_lk e1)
      have hlt : f < h.nms.length := (List.getElem?_eq_some_iff.mp e3).1
      have z := z4 f (List.mem_range.mpr hlt)
      rw [Bool.or_eq_true] at z
      rcases z with z | z
      · have e2 : h.mdl.lookup (c', f) = none := e2
        dsimp only at z
        rw [e2] at z
        cases z
      · dsimp only at z
        rw [nmE e3] at z
        exact He.noat_ok z
    blt := fun x hx => He.free_ok X Gm (b5 x hx)
    mth := fun c' m f x e1 e2 => by
      obtain ⟨⟨z1, z2⟩, z3⟩ := b4 _ (mem_of_lk e1)
      have z3 := of_decide_eq_true z3
      dsimp only at z1 z2 z3
      rw [nmE e2] at z1 z3
      have m1 := He.meth_ok z1
      rw [z3] at m1
      exact ⟨m1, He.cls_ok z2⟩
    xcl := fun c' l e => by
      obtain ⟨⟨⟨⟨z1, z2⟩, z3⟩, z4⟩, z5⟩ := b6 _ (mem_of_lk e)
      obtain ⟨y1, y2, d, hd, hat, _, hbd⟩ := ok.xf c' l (mem_of_lk e)
      have b := bind_at c hd hbd
      rw [hat] at b
      exact ⟨oexB_ok z1, xfB_ok z2, of_decide_eq_true z3, of_decide_eq_true z4, b, y1, y2⟩
    xno := fun c' l f x e hf hx => by
      obtain ⟨_, z5⟩ := b6 _ (mem_of_lk e)
      have z := of_decide_eq_true (z5 f hf)
      dsimp only at z
      rw [nmE hx] at z
      exact z
    kb := fun f m ks hm s us ws kin h1 h2 => by
      obtain ⟨d, hd, hat, hz, hbd⟩ := ok.kb f m ks hm
      have F := def_at c hd hz
      rw [hat] at F
      obtain ⟨oc, od, dV, kV, doc, pm, an, cdv, ct, osl, e1, lk, hcd, hD, hK⟩ := F.ex
      show BindsTo s (fdAt K (He.fAd K (h.at_ f))) _ _
      rw [e1]
      rcases hD with ⟨_, rfl⟩ | ⟨e, _⟩
      · exact .of_eq (hbd kV doc pm an cdv ct us ws h1 h2)
      · exact absurd rfl e
    exm := fun c1 c2 e1 e2 => by
      obtain ⟨l1, h1⟩ := Option.isSome_iff_exists.mp e1
      obtain ⟨l2, h2⟩ := Option.isSome_iff_exists.mp e2
      have h1 : h.xfl.lookup c1 = some l1 := h1
      have h2 : h.xfl.lookup c2 = some l2 := h2
      have z := b7 (c1, l1) (mem_of_lk h1) (c2, l2) (mem_of_lk h2)
      dsimp only at z
      exact of_decide_eq_true z }
  refine ⟨gf, fun f fn e => ?_, fun c' l e => ?_⟩
  · obtain ⟨d, hd, hat, hS, hbd⟩ := ok.fn f fn (mem_of_lk e)
    have F := def_at c hd hbd.1
    rw [hat] at F
    obtain ⟨N, s1, s2, s3, s4⟩ := hS.ex
    rw [hS.body] at F
    have e3 : FunD (h.gl K mg).K d.name d.qual d.params fn.body.srcs d.scope [] (d.kws K) ((h.gl K mg).FA f) ((h.gl K mg).FD f) := F
    have e4 : FnScope N ((h.gl K mg).PS f) d.scope := s1
    have e5 : okS (h.gl K mg).sd N d.scope.names fn.body = true := s2
    have e6 : d.scope.names ≠ (h.gl K mg).lsc := s4
    exact ⟨⟨d.name, d.qual, d.params, d.scope, N, [], d.kws K, e3, e4, e5, s3, e6⟩, hS.bk, hS.np⟩
  · obtain ⟨y1, y2, d, hd, hat, hX, hbd⟩ := ok.xf c' l (mem_of_lk e)
    have F := def_at c hd hbd.1
    rw [hat] at F
    refine ⟨d.name, d.qual, d.params, d.scope, [], d.kws K, d.body, F, ?_⟩
    exact hX
end
end Ms

/-! The law's promise at the head. -/
namespace Ms
open PySem PySem.Spec PyProof.Rows L2 Mx

/-- who gets the lambdas -/
def RefS (h : HDat) (d : He.DefD) : Prop := d.dfl = [] ∧ d.at_ = (h.lrf.1, none) ∧ d.name = h.lrf.1 ∧ d.qual = h.lrf.1 ∧ ∃ (a n ex y : Str) (p1 p2 p3 p4 p5 p6 p7 p8 p9 p10 p11 : Pos) (j : Nat) (l : List Nat),
    BindS [a] d ∧ FnScope [a, n] [a] d.scope ∧ d.scope.names.lookup a = some .local ∧ d.scope.names.lookup n = some .local ∧ d.scope.names.lookup ex = some .globalImplicit ∧ h.clss[h.lrf.2.1]? = some ex ∧ h.xfl.lookup h.lrf.2.1 = some l ∧ h.lrf.2.2 ∈ l ∧ h.nms[h.lrf.2.2]? = some y ∧
    (a == ("__debug__" : Str)) = false ∧ (a == ("__classdict__" : Str)) = false ∧ (n == ("__debug__" : Str)) = false ∧ (n == ("__classdict__" : Str)) = false ∧ (ex == ("__debug__" : Str)) = false ∧
    d.body = [.Try [.Expr (.Call (.Name a p1) [] [] p2) p3] [.ExceptHandler (some (.Name ex p4)) (some n) [.Return (some (.Attribute (.Name n p5) y p6)) p7] p8] [] [] p9, .Return (some (.Constant (.str (sS [])) j p10)) p11]
/-- the law's def -/
def LawS (h : HDat) (fn : Fn) (x : Str) (d : He.DefD) : Prop := d.at_ = (("law" : Str), none) ∧ d.qual = "law" ∧ BindS [x] d ∧ d.body = fn.body.srcs ∧ isBk fn.body = true ∧ fn.np = 1 ∧ ∃ N, FnScope N [x] d.scope ∧ okS h.sd N d.scope.names fn.body = true ∧ fn.n = N.length
section
variable {h : HDat} {ds : List He.DefD} {K : PySem.W.Frag} {hp : Heap} {mg : Str → Option Value}
theorem ref_at (c : He.SaysD [] ds K) (X : K.In hp) (Gm : hp.Ns mainGlobals mg) (hb : hB h K = true) {d : He.DefD} (hd : d ∈ ds) (r : RefS h d) (hx : (h.lrf.1, none) ∈ h.ats) : RefD (h.gl K mg) h.lrf.1 h.lrf.2.1 h.lrf.2.2 := by
  obtain ⟨z, e1, e2, e3, a, n, ex, y, p1, p2, p3, p4, p5, p6, p7, p8, p9, p10, p11, j, l, bd, r1, r2, r3, r4, r5, r6, r7, r8, r9, r10, r11, r12, r13, r14⟩ := r
  have F := def_at c hd z
  have hk := F.kp
  obtain ⟨oc, od, dV, kV, doc, pm, an, cdv, ct, osl, ef, lk, hcd, hD, hK⟩ := F.ex
  unfold hB at hb
  simp only [Bool.and_eq_true, List.all_eq_true] at hb
  have b1 := hb.1.1.1.1.1.1.1 _ hx
  have ea : He.fAd K d.at_ = He.ga K h.lrf.1 := by rw [e1]; rfl
  have bb := bind_at c hd bd
  rw [ef] at bb lk
  rw [ea] at hk lk
  rw [e2, e3] at bb lk
  rw [e3] at hcd
  rw [r14] at bb lk
  refine ⟨He.ga K h.lrf.1, d.params, _, d.scope, dV, kV, doc, pm, cdv, ct, oc, an, od, osl, a, n, ex, y, p1, p2, p3, p4, p5, p6, p7, p8, p9, p10, p11, j, l, He.glo_ok X Gm b1, hk, lk, hcd, bb, r1, r2, r3, r4, r5, r6, r7, r8, r9, r10, r11, r12, r13, rfl⟩
/-- the machine's law is kept: of a list that is read alone, of one that may be changed -/
def KeptM (G : GL) (fn : Fn) (k m : Nat) : Prop := ∀ ns : List Int, ns.length ≤ m → (∀ z ∈ ns, Builtin.Int.intBits z ≤ 1048576) → ∀ o : O, o = .lst (ns.map .int) ∨ o = .frz (ns.map .int) → ∃ hE, lawM G fn k [.ref 0] [o] = .ok (.bl true) hE
theorem lawM_gl (K : PySem.W.Frag) (K' : PySem.W.Frag) (mg mg' : Str → Option Value) (fn : Fn) (k : Nat) (ds : List D) (hh : AH) : lawM (h.gl K mg) fn k ds hh = lawM (h.gl K' mg') fn k ds hh := rfl
theorem law_at {l : PySem.W.OpenLaw} {w : World} {fn : Fn} {x : Str} {k m : Nat} {fa : Addr} {dl dr : He.DefD} (ok : HOk h ds) (hl : dl ∈ ds) (hdr : dr ∈ ds) (ls : LawS h fn x dl) (rs : RefS h dr) (hx : (h.lrf.1, none) ∈ h.ats) (hlaw : (("law" : Str), none) ∈ h.ats)
    (says : He.SaysX [] ds [] [("law", none)] (hB h) w hp K) (X : K.In hp) (Gm : hp.Ns mainGlobals mg) (hfa : mg "law" = some (.ref fa)) (kept : KeptM (h.gl [] fun _ => none) fn k m) : LamX.LawAtS l w K (L2.CX l.prog w) (k + 6) m x mg fa hp := by
  have c := says.t.d
  have pf := pf_of ok c X Gm says.more
  have rd := ref_at (mg := mg) c X Gm says.more hdr rs hx
  obtain ⟨e1, e2, bd, e3, hbk, hnp, N, s1, s2, s3⟩ := ls
  have F := def_at c hl bd.1
  have efa : He.fAd K dl.at_ = fa := by
    have hb := says.more
    unfold hB at hb
    simp only [Bool.and_eq_true, List.all_eq_true] at hb
    have b1 := hb.1.1.1.1.1.1.1 _ hlaw
    have := hfa.symm.trans (He.glo_ok X Gm b1)
    rw [e1]
    show He.ga K "law" = fa
    cases this
    rfl
  obtain ⟨oc, od, dV, kV, doc, pm, an, cdv, ct, osl, ef, lk, hcd, hD, hK⟩ := F.ex
  obtain ⟨cc, ecc⟩ := He.codeIn_ref hcd
  have ecT : (He.cT K ("law", none)).1 = cc := by
    have lk2 := lk
    rw [e1] at lk2
    exact He.codeOf_eq lk2 (by rw [e1] at ef; rw [ef]; exact ecc)
  refine ⟨fdAt K (He.fAd K dl.at_), [He.cT K ("law", none)], spM (h.gl K mg) (lawM (h.gl K mg) fn k) 1, fun p hp' => ?_, fun p hp' => ?_, fun p hp' => ?_, fun s u => ?_, fun H a ns hn hbits hT hS => ?_, fun base Kb Gb tb => ?_⟩
  · rw [List.mem_singleton.mp hp']
    exact says.empty _ (List.mem_singleton.mpr rfl)
  · rw [List.mem_singleton.mp hp']
    exact says.out _ (List.mem_singleton.mpr rfl)
  · rw [List.mem_singleton.mp hp']
    exact PySem.W.codeHd_of_K X (says.hd _ (List.mem_singleton.mpr rfl))
  · exact F.bindsA (ps := [x]) bd.2 s [u] rfl
  · refine ⟨rfl, [], [a], [.ref 0], ?_⟩
    have hR : ∀ o : O, OR (h.gl K mg) [a] H a o → HR ((h.gl K mg).wf []) [a] [o] H := fun o ho => ⟨rfl, fun i j b o1 o2 f1 f2 f3 f4 w1 w2 => by
      have := (List.getElem?_eq_some_iff.mp f1).1
      have := (List.getElem?_eq_some_iff.mp f2).1
      simp at *
      omega, fun i b o1 f1 f2 => by
      have hi := (List.getElem?_eq_some_iff.mp f1).1
      simp at hi
      subst hi
      simp at f1 f2
      subst f1 f2
      exact OR_wf.mpr ho, fun p hp' => by
      rw [List.mem_singleton.mp hp']
      exact LamX.TabS.nil (hT _ (List.mem_singleton.mpr rfl)), fun p hp' => (by cases hp'), List.nodup_nil⟩
    have rl : RL ((h.gl K mg).wf []).K [a] H [.ref 0] [.ref a] := RL.cons (by unfold R; exact ⟨a, rfl, rfl⟩) RL.nil
    have ri : RL K [a] H (ns.map D.int) (ns.map V.int) := RL.map (fun i => R.ofInt i) ns
    have key : ∀ o : O, o = .lst (ns.map .int) ∨ o = .frz (ns.map .int) → Pst ((h.gl K mg).wf []) (fun _ _ _ => False) [a] H (lawM (h.gl K mg) fn k [.ref 0] [o]) (pV ((h.gl K mg).wf []) fun v _ => v = .bl true) := fun o ho => by
      obtain ⟨hE, e⟩ := kept ns hn hbits o ho
      rw [lawM_gl K [] mg (fun _ => none), e]
      exact fun ρ' H' _ _ _ v r => r.bl
    rcases hS with (hS | ⟨ob, hS⟩) | hS
    · exact ⟨_, hR (.lst (ns.map .int)) ⟨_, hS, ri⟩, rl, key _ (.inl rfl)⟩
    · exact ⟨_, hR (.frz (ns.map .int)) ⟨_, .inl ⟨ob, hS⟩, ri⟩, rl, key _ (.inr rfl)⟩
    · exact ⟨_, hR (.frz (ns.map .int)) ⟨_, .inr hS, ri⟩, rl, key _ (.inr rfl)⟩
  · have tb1 := tb _ (List.mem_singleton.mpr rfl)
    rw [ecT] at tb1
    have lf : LawF (h.gl K mg) base fa (fdAt K (He.fAd K dl.at_)) [x] fn := by
      rw [efa] at lk ef ⊢
      rw [ef] at lk ⊢
      rw [e3] at lk ⊢
      rw [e2] at hcd lk ⊢
      exact ⟨⟨dl.name, "law", dl.params, dl.scope, N, dV, kV, doc, pm, cdv, ct, oc, an, od, osl, rfl, lk, hcd, s1, s2, s3, fun _ => ⟨rd, cc, _, ecc, tb1, fun n ff => ⟨List.mem_singleton.mpr rfl, fun p hp' _ => by rw [List.mem_singleton.mp hp']; rfl⟩⟩⟩, hbk, hnp⟩
    exact lawOk (P := l.prog) (w := w) pf lf k
end
end Ms

namespace P35
open PySem Mx

-- 0 BadArgument_init: apart
-- 1 Flaw_init: apart
/-- 2 -/
abbrev b_need_1 : S := .scons (.rai 0 "BadArgument" ⟨14, 14, 14, 25⟩ (.acons (.var 1 "name" ⟨14, 26, 14, 30⟩) .anil) ⟨14, 14, 14, 31⟩ ⟨14, 8, 14, 31⟩) .snil
abbrev b_need_2 : S := .scons (.ife (.not (.var 0 "is_right" ⟨13, 11, 13, 19⟩) ⟨13, 7, 13, 19⟩) b_need_1 .snil ⟨13, 4, 14, 31⟩) .snil
abbrev b_need : S := b_need_2
def f_need : Fn := ⟨2, 2, b_need⟩
/-- 3 -/
abbrev b_Wish_init_1 : S := .scons (.fld (.var 0 "self" ⟨31, 8, 31, 12⟩) 2 "inner" ⟨31, 8, 31, 18⟩ (.var 3 "inner" ⟨31, 21, 31, 26⟩) ⟨31, 8, 31, 26⟩) .snil
abbrev b_Wish_init_2 : S := .scons (.fld (.var 0 "self" ⟨30, 8, 30, 12⟩) 1 "names" ⟨30, 8, 30, 18⟩ (.var 2 "names" ⟨30, 21, 30, 26⟩) ⟨30, 8, 30, 26⟩) b_Wish_init_1
abbrev b_Wish_init_3 : S := .scons (.fld (.var 0 "self" ⟨29, 8, 29, 12⟩) 0 "form" ⟨29, 8, 29, 17⟩ (.var 1 "form" ⟨29, 20, 29, 24⟩) ⟨29, 8, 29, 24⟩) b_Wish_init_2
abbrev b_Wish_init : S := b_Wish_init_3
def f_Wish_init : Fn := ⟨4, 4, b_Wish_init⟩
/-- 4 -/
abbrev b_Reader_init_1 : S := .scons (.rai 1 "Flaw" ⟨41, 22, 41, 26⟩ (.acons (.var 3 "place" ⟨41, 27, 41, 32⟩) (.acons (.cst (.str [116, 104, 105, 115, 32, 115, 105, 103, 110, 32, 99, 97, 110, 110, 111, 116, 32, 115, 116, 97, 110, 100, 32, 104, 101, 114, 101]) ⟨41, 34, 41, 63⟩) .anil)) ⟨41, 22, 41, 64⟩ ⟨41, 16, 41, 64⟩) .snil
abbrev b_Reader_init_2 : S := .scons (.ife (.cmp .nin (.var 2 "own" ⟨40, 15, 40, 18⟩) (.bin .add (.bin .add (.bin .add (.bin .add (.bin .add (.bin .add (.bin .add (.bin .add (.glo (.str [97, 98, 99, 100, 101, 102, 103, 104, 105, 106]) "LETTERS" ⟨40, 26, 40, 33⟩) (.glo (.str [48, 49, 50, 51]) "DIGITS" ⟨40, 36, 40, 42⟩) ⟨40, 26, 40, 42⟩) (.glo (.str [88, 89, 90]) "BOATS" ⟨40, 45, 40, 50⟩) ⟨40, 26, 40, 50⟩) (.glo (.str [64]) "AT" ⟨40, 53, 40, 55⟩) ⟨40, 26, 40, 55⟩) (.glo (.str [61]) "SAME" ⟨40, 58, 40, 62⟩) ⟨40, 26, 40, 62⟩) (.glo (.str [126]) "NOT" ⟨40, 65, 40, 68⟩) ⟨40, 26, 40, 68⟩) (.glo (.str [38]) "AND" ⟨40, 71, 40, 74⟩) ⟨40, 26, 40, 74⟩) (.glo (.str [124]) "OR" ⟨40, 77, 40, 79⟩) ⟨40, 26, 40, 79⟩) (.cst (.str [40, 41]) ⟨40, 82, 40, 86⟩) ⟨40, 26, 40, 86⟩) ⟨40, 15, 40, 86⟩) b_Reader_init_1 .snil ⟨40, 12, 41, 64⟩) .snil
abbrev b_Reader_init_3 : S := .scons (.loop (.many [(2, "own", ⟨39, 12, 39, 15⟩), (3, "place", ⟨39, 17, 39, 22⟩)] ⟨39, 12, 39, 22⟩) (.iseq (.att (.var 0 "self" ⟨39, 26, 39, 30⟩) 3 "signs" ⟨39, 26, 39, 36⟩)) b_Reader_init_2 ⟨39, 8, 41, 64⟩) .snil
abbrev b_Reader_init_4 : S := .scons (.fld (.var 0 "self" ⟨38, 8, 38, 12⟩) 6 "deep" ⟨38, 8, 38, 17⟩ (.cst (.int 0) ⟨38, 20, 38, 21⟩) ⟨38, 8, 38, 21⟩) b_Reader_init_3
abbrev b_Reader_init_5 : S := .scons (.fld (.var 0 "self" ⟨37, 8, 37, 12⟩) 5 "at" ⟨37, 8, 37, 15⟩ (.cst (.int 0) ⟨37, 18, 37, 19⟩) ⟨37, 8, 37, 19⟩) b_Reader_init_4
abbrev b_Reader_init_6 : S := .scons (.fld (.var 0 "self" ⟨36, 8, 36, 12⟩) 4 "size" ⟨36, 8, 36, 17⟩ (.b1 .len (.var 1 "text" ⟨36, 24, 36, 28⟩) ⟨36, 20, 36, 23⟩ ⟨36, 20, 36, 29⟩) ⟨36, 8, 36, 29⟩) b_Reader_init_5
abbrev b_Reader_init_7 : S := .scons (.fld (.var 0 "self" ⟨35, 8, 35, 12⟩) 3 "signs" ⟨35, 8, 35, 18⟩ (.newl (.lc (.tup (.acons (.var 2 "own" ⟨35, 23, 35, 26⟩) (.acons (.var 4 "at" ⟨35, 28, 35, 30⟩) .anil)) ⟨35, 22, 35, 31⟩) (.many [(4, "at", ⟨35, 36, 35, 38⟩), (2, "own", ⟨35, 40, 35, 43⟩)] ⟨35, 36, 35, 43⟩) (.ienum (.var 1 "text" ⟨35, 57, 35, 61⟩) ⟨35, 47, 35, 56⟩ ⟨35, 47, 35, 62⟩) (.osome (.cmp .ne (.var 2 "own" ⟨35, 66, 35, 69⟩) (.cst (.str [32]) ⟨35, 73, 35, 76⟩) ⟨35, 66, 35, 76⟩)) [("at", 4), ("own", 2)] ⟨.function, [(".0", .local), ("at", .local), ("own", .local)], false, false, []⟩ ⟨35, 21, 35, 77⟩)) ⟨35, 8, 35, 77⟩) b_Reader_init_6
abbrev b_Reader_init : S := b_Reader_init_7
def f_Reader_init : Fn := ⟨2, 5, b_Reader_init⟩
/-- 5 -/
abbrev b_Reader_ahead_1 : S := .scons (.ret (.ife (.cmp .lt (.att (.var 0 "self" ⟨44, 41, 44, 45⟩) 5 "at" ⟨44, 41, 44, 48⟩) (.b1 .len (.att (.var 0 "self" ⟨44, 55, 44, 59⟩) 3 "signs" ⟨44, 55, 44, 65⟩) ⟨44, 51, 44, 54⟩ ⟨44, 51, 44, 66⟩) ⟨44, 41, 44, 66⟩) (.ix (.ix (.att (.var 0 "self" ⟨44, 15, 44, 19⟩) 3 "signs" ⟨44, 15, 44, 25⟩) (.att (.var 0 "self" ⟨44, 26, 44, 30⟩) 5 "at" ⟨44, 26, 44, 33⟩) ⟨44, 15, 44, 34⟩) (.cst (.int 0) ⟨44, 35, 44, 36⟩) ⟨44, 15, 44, 37⟩) (.cst (.str []) ⟨44, 72, 44, 74⟩) ⟨44, 15, 44, 74⟩) ⟨44, 8, 44, 74⟩) .snil
abbrev b_Reader_ahead : S := b_Reader_ahead_1
def f_Reader_ahead : Fn := ⟨1, 1, b_Reader_ahead⟩
/-- 6 -/
abbrev b_Reader_fail_1 : S := .scons (.rai 1 "Flaw" ⟨47, 14, 47, 18⟩ (.acons (.ife (.cmp .lt (.att (.var 0 "self" ⟨47, 45, 47, 49⟩) 5 "at" ⟨47, 45, 47, 52⟩) (.b1 .len (.att (.var 0 "self" ⟨47, 59, 47, 63⟩) 3 "signs" ⟨47, 59, 47, 69⟩) ⟨47, 55, 47, 58⟩ ⟨47, 55, 47, 70⟩) ⟨47, 45, 47, 70⟩) (.ix (.ix (.att (.var 0 "self" ⟨47, 19, 47, 23⟩) 3 "signs" ⟨47, 19, 47, 29⟩) (.att (.var 0 "self" ⟨47, 30, 47, 34⟩) 5 "at" ⟨47, 30, 47, 37⟩) ⟨47, 19, 47, 38⟩) (.cst (.int 1) ⟨47, 39, 47, 40⟩) ⟨47, 19, 47, 41⟩) (.att (.var 0 "self" ⟨47, 76, 47, 80⟩) 4 "size" ⟨47, 76, 47, 85⟩) ⟨47, 19, 47, 85⟩) (.acons (.var 1 "message" ⟨47, 87, 47, 94⟩) .anil)) ⟨47, 14, 47, 95⟩ ⟨47, 8, 47, 95⟩) .snil
abbrev b_Reader_fail : S := b_Reader_fail_1
def f_Reader_fail : Fn := ⟨2, 2, b_Reader_fail⟩
/-- 7 -/
abbrev b_Reader_take_1 : S := .scons (.exp (.mth (.var 0 "self" ⟨52, 12, 52, 16⟩) 8 "fail" ⟨52, 12, 52, 21⟩ (.acons (.var 2 "message" ⟨52, 22, 52, 29⟩) .anil) ⟨52, 12, 52, 30⟩) ⟨52, 12, 52, 30⟩) .snil
abbrev b_Reader_take_2 : S := .scons (.ret (.var 3 "own" ⟨54, 15, 54, 18⟩) ⟨54, 8, 54, 18⟩) .snil
abbrev b_Reader_take_3 : S := .scons (.fau (.var 0 "self" ⟨53, 8, 53, 12⟩) 5 "at" ⟨53, 8, 53, 15⟩ false (.cst (.int 1) ⟨53, 19, 53, 20⟩) ⟨53, 8, 53, 20⟩) b_Reader_take_2
abbrev b_Reader_take_4 : S := .scons (.ife (.bo false (.cmp .eq (.var 3 "own" ⟨51, 11, 51, 14⟩) (.cst (.str []) ⟨51, 18, 51, 20⟩) ⟨51, 11, 51, 20⟩) (.acons (.cmp .nin (.var 3 "own" ⟨51, 24, 51, 27⟩) (.var 1 "signs" ⟨51, 35, 51, 40⟩) ⟨51, 24, 51, 40⟩) .anil) ⟨51, 11, 51, 40⟩) b_Reader_take_1 .snil ⟨51, 8, 52, 30⟩) b_Reader_take_3
abbrev b_Reader_take_5 : S := .scons (.set 3 "own" ⟨50, 8, 50, 11⟩ (.mth (.var 0 "self" ⟨50, 14, 50, 18⟩) 7 "ahead" ⟨50, 14, 50, 24⟩ .anil ⟨50, 14, 50, 26⟩) ⟨50, 8, 50, 26⟩) b_Reader_take_4
abbrev b_Reader_take : S := b_Reader_take_5
def f_Reader_take : Fn := ⟨3, 4, b_Reader_take⟩
/-- 8 -/
abbrev b_Reader_whole_1 : S := .scons (.exp (.mth (.var 0 "self" ⟨59, 12, 59, 16⟩) 8 "fail" ⟨59, 12, 59, 21⟩ (.acons (.cst (.str [101, 120, 112, 101, 99, 116, 101, 100, 32, 116, 104, 101, 32, 101, 110, 100]) ⟨59, 22, 59, 40⟩) .anil) ⟨59, 12, 59, 41⟩) ⟨59, 12, 59, 41⟩) .snil
abbrev b_Reader_whole_2 : S := .scons (.ret (.var 1 "found" ⟨60, 15, 60, 20⟩) ⟨60, 8, 60, 20⟩) .snil
abbrev b_Reader_whole_3 : S := .scons (.ife (.cmp .lt (.att (.var 0 "self" ⟨58, 11, 58, 15⟩) 5 "at" ⟨58, 11, 58, 18⟩) (.b1 .len (.att (.var 0 "self" ⟨58, 25, 58, 29⟩) 3 "signs" ⟨58, 25, 58, 35⟩) ⟨58, 21, 58, 24⟩ ⟨58, 21, 58, 36⟩) ⟨58, 11, 58, 36⟩) b_Reader_whole_1 .snil ⟨58, 8, 59, 41⟩) b_Reader_whole_2
abbrev b_Reader_whole_4 : S := .scons (.set 1 "found" ⟨57, 8, 57, 13⟩ (.mth (.var 0 "self" ⟨57, 16, 57, 20⟩) 9 "either" ⟨57, 16, 57, 27⟩ .anil ⟨57, 16, 57, 29⟩) ⟨57, 8, 57, 29⟩) b_Reader_whole_3
abbrev b_Reader_whole : S := b_Reader_whole_4
def f_Reader_whole : Fn := ⟨1, 2, b_Reader_whole⟩
/-- 9 -/
abbrev b_Reader_either_1 : S := .scons (.set 1 "found" ⟨66, 12, 66, 17⟩ (.make 2 "Wish" ⟨66, 20, 66, 24⟩ (.acons (.glo (.str [124]) "OR" ⟨66, 25, 66, 27⟩) (.acons (.cst (.str []) ⟨66, 29, 66, 31⟩) (.acons (.newl (.ldisp (.acons (.var 1 "found" ⟨66, 34, 66, 39⟩) (.acons (.mth (.var 0 "self" ⟨66, 41, 66, 45⟩) 10 "both" ⟨66, 41, 66, 50⟩ .anil ⟨66, 41, 66, 52⟩) .anil)) ⟨66, 33, 66, 53⟩)) .anil))) ⟨66, 20, 66, 54⟩) ⟨66, 12, 66, 54⟩) .snil
abbrev b_Reader_either_2 : S := .scons (.fau (.var 0 "self" ⟨65, 12, 65, 16⟩) 5 "at" ⟨65, 12, 65, 19⟩ false (.cst (.int 1) ⟨65, 23, 65, 24⟩) ⟨65, 12, 65, 24⟩) b_Reader_either_1
abbrev b_Reader_either_3 : S := .scons (.ret (.var 1 "found" ⟨67, 15, 67, 20⟩) ⟨67, 8, 67, 20⟩) .snil
abbrev b_Reader_either_4 : S := .scons (.whl (.cmp .eq (.mth (.var 0 "self" ⟨64, 14, 64, 18⟩) 7 "ahead" ⟨64, 14, 64, 24⟩ .anil ⟨64, 14, 64, 26⟩) (.glo (.str [124]) "OR" ⟨64, 30, 64, 32⟩) ⟨64, 14, 64, 32⟩) b_Reader_either_2 ⟨64, 8, 66, 54⟩) b_Reader_either_3
abbrev b_Reader_either_5 : S := .scons (.set 1 "found" ⟨63, 8, 63, 13⟩ (.mth (.var 0 "self" ⟨63, 16, 63, 20⟩) 10 "both" ⟨63, 16, 63, 25⟩ .anil ⟨63, 16, 63, 27⟩) ⟨63, 8, 63, 27⟩) b_Reader_either_4
abbrev b_Reader_either : S := b_Reader_either_5
def f_Reader_either : Fn := ⟨1, 2, b_Reader_either⟩
/-- 10 -/
abbrev b_Reader_both_1 : S := .scons (.set 1 "found" ⟨73, 12, 73, 17⟩ (.make 2 "Wish" ⟨73, 20, 73, 24⟩ (.acons (.glo (.str [38]) "AND" ⟨73, 25, 73, 28⟩) (.acons (.cst (.str []) ⟨73, 30, 73, 32⟩) (.acons (.newl (.ldisp (.acons (.var 1 "found" ⟨73, 35, 73, 40⟩) (.acons (.mth (.var 0 "self" ⟨73, 42, 73, 46⟩) 11 "single" ⟨73, 42, 73, 53⟩ .anil ⟨73, 42, 73, 55⟩) .anil)) ⟨73, 34, 73, 56⟩)) .anil))) ⟨73, 20, 73, 57⟩) ⟨73, 12, 73, 57⟩) .snil
abbrev b_Reader_both_2 : S := .scons (.fau (.var 0 "self" ⟨72, 12, 72, 16⟩) 5 "at" ⟨72, 12, 72, 19⟩ false (.cst (.int 1) ⟨72, 23, 72, 24⟩) ⟨72, 12, 72, 24⟩) b_Reader_both_1
abbrev b_Reader_both_3 : S := .scons (.ret (.var 1 "found" ⟨74, 15, 74, 20⟩) ⟨74, 8, 74, 20⟩) .snil
abbrev b_Reader_both_4 : S := .scons (.whl (.cmp .eq (.mth (.var 0 "self" ⟨71, 14, 71, 18⟩) 7 "ahead" ⟨71, 14, 71, 24⟩ .anil ⟨71, 14, 71, 26⟩) (.glo (.str [38]) "AND" ⟨71, 30, 71, 33⟩) ⟨71, 14, 71, 33⟩) b_Reader_both_2 ⟨71, 8, 73, 57⟩) b_Reader_both_3
abbrev b_Reader_both_5 : S := .scons (.set 1 "found" ⟨70, 8, 70, 13⟩ (.mth (.var 0 "self" ⟨70, 16, 70, 20⟩) 11 "single" ⟨70, 16, 70, 27⟩ .anil ⟨70, 16, 70, 29⟩) ⟨70, 8, 70, 29⟩) b_Reader_both_4
abbrev b_Reader_both : S := b_Reader_both_5
def f_Reader_both : Fn := ⟨1, 2, b_Reader_both⟩
/-- 11 -/
abbrev b_Reader_single_1 : S := .scons (.aug 1 "count" ⟨80, 12, 80, 17⟩ false (.cst (.int 1) ⟨80, 21, 80, 22⟩) ⟨80, 12, 80, 22⟩) .snil
abbrev b_Reader_single_2 : S := .scons (.fau (.var 0 "self" ⟨79, 12, 79, 16⟩) 5 "at" ⟨79, 12, 79, 19⟩ false (.cst (.int 1) ⟨79, 23, 79, 24⟩) ⟨79, 12, 79, 24⟩) b_Reader_single_1
abbrev b_Reader_single_3 : S := .scons (.set 2 "found" ⟨83, 12, 83, 17⟩ (.make 2 "Wish" ⟨83, 20, 83, 24⟩ (.acons (.glo (.str [126]) "NOT" ⟨83, 25, 83, 28⟩) (.acons (.cst (.str []) ⟨83, 30, 83, 32⟩) (.acons (.newl (.ldisp (.acons (.var 2 "found" ⟨83, 35, 83, 40⟩) .anil) ⟨83, 34, 83, 41⟩)) .anil))) ⟨83, 20, 83, 42⟩) ⟨83, 12, 83, 42⟩) .snil
abbrev b_Reader_single_4 : S := .scons (.ret (.var 2 "found" ⟨84, 15, 84, 20⟩) ⟨84, 8, 84, 20⟩) .snil
abbrev b_Reader_single_5 : S := .scons (.loop (.one 3 "turn" ⟨82, 12, 82, 16⟩) (.irng1 (.var 1 "count" ⟨82, 26, 82, 31⟩) ⟨82, 20, 82, 25⟩ ⟨82, 20, 82, 32⟩) b_Reader_single_3 ⟨82, 8, 83, 42⟩) b_Reader_single_4
abbrev b_Reader_single_6 : S := .scons (.set 2 "found" ⟨81, 8, 81, 13⟩ (.mth (.var 0 "self" ⟨81, 16, 81, 20⟩) 12 "ground" ⟨81, 16, 81, 27⟩ .anil ⟨81, 16, 81, 29⟩) ⟨81, 8, 81, 29⟩) b_Reader_single_5
abbrev b_Reader_single_7 : S := .scons (.whl (.cmp .eq (.mth (.var 0 "self" ⟨78, 14, 78, 18⟩) 7 "ahead" ⟨78, 14, 78, 24⟩ .anil ⟨78, 14, 78, 26⟩) (.glo (.str [126]) "NOT" ⟨78, 30, 78, 33⟩) ⟨78, 14, 78, 33⟩) b_Reader_single_2 ⟨78, 8, 80, 22⟩) b_Reader_single_6
abbrev b_Reader_single_8 : S := .scons (.set 1 "count" ⟨77, 8, 77, 13⟩ (.cst (.int 0) ⟨77, 16, 77, 17⟩) ⟨77, 8, 77, 17⟩) b_Reader_single_7
abbrev b_Reader_single : S := b_Reader_single_8
def f_Reader_single : Fn := ⟨1, 4, b_Reader_single⟩
/-- 12 -/
abbrev b_Reader_ground_1 : S := .scons (.exp (.mth (.var 0 "self" ⟨89, 16, 89, 20⟩) 8 "fail" ⟨89, 16, 89, 25⟩ (.acons (.cst (.str [116, 104, 105, 115, 32, 105, 115, 32, 116, 111, 111, 32, 100, 101, 101, 112]) ⟨89, 26, 89, 44⟩) .anil) ⟨89, 16, 89, 45⟩) ⟨89, 16, 89, 45⟩) .snil
abbrev b_Reader_ground_2 : S := .scons (.ret (.var 1 "found" ⟨95, 19, 95, 24⟩) ⟨95, 12, 95, 24⟩) .snil
abbrev b_Reader_ground_3 : S := .scons (.fau (.var 0 "self" ⟨94, 12, 94, 16⟩) 6 "deep" ⟨94, 12, 94, 21⟩ true (.cst (.int 1) ⟨94, 25, 94, 26⟩) ⟨94, 12, 94, 26⟩) b_Reader_ground_2
abbrev b_Reader_ground_4 : S := .scons (.exp (.mth (.var 0 "self" ⟨93, 12, 93, 16⟩) 13 "take" ⟨93, 12, 93, 21⟩ (.acons (.cst (.str [41]) ⟨93, 22, 93, 25⟩) (.acons (.cst (.str [101, 120, 112, 101, 99, 116, 101, 100, 32, 41]) ⟨93, 27, 93, 39⟩) .anil)) ⟨93, 12, 93, 40⟩) ⟨93, 12, 93, 40⟩) b_Reader_ground_3
abbrev b_Reader_ground_5 : S := .scons (.set 1 "found" ⟨92, 12, 92, 17⟩ (.mth (.var 0 "self" ⟨92, 20, 92, 24⟩) 9 "either" ⟨92, 20, 92, 31⟩ .anil ⟨92, 20, 92, 33⟩) ⟨92, 12, 92, 33⟩) b_Reader_ground_4
abbrev b_Reader_ground_6 : S := .scons (.fau (.var 0 "self" ⟨91, 12, 91, 16⟩) 6 "deep" ⟨91, 12, 91, 21⟩ false (.cst (.int 1) ⟨91, 25, 91, 26⟩) ⟨91, 12, 91, 26⟩) b_Reader_ground_5
abbrev b_Reader_ground_7 : S := .scons (.fau (.var 0 "self" ⟨90, 12, 90, 16⟩) 5 "at" ⟨90, 12, 90, 19⟩ false (.cst (.int 1) ⟨90, 23, 90, 24⟩) ⟨90, 12, 90, 24⟩) b_Reader_ground_6
abbrev b_Reader_ground_8 : S := .scons (.ife (.cmp .eq (.att (.var 0 "self" ⟨88, 15, 88, 19⟩) 6 "deep" ⟨88, 15, 88, 24⟩) (.glo (.int 20) "MOST_DEEP" ⟨88, 28, 88, 37⟩) ⟨88, 15, 88, 37⟩) b_Reader_ground_1 .snil ⟨88, 12, 89, 45⟩) b_Reader_ground_7
abbrev b_Reader_ground_9 : S := .scons (.ret (.make 2 "Wish" ⟨98, 19, 98, 23⟩ (.acons (.glo (.str [64]) "AT" ⟨98, 24, 98, 26⟩) (.acons (.bin .add (.var 2 "name" ⟨98, 28, 98, 32⟩) (.mth (.var 0 "self" ⟨98, 35, 98, 39⟩) 13 "take" ⟨98, 35, 98, 44⟩ (.acons (.glo (.str [48, 49, 50, 51]) "DIGITS" ⟨98, 45, 98, 51⟩) (.acons (.cst (.str [101, 120, 112, 101, 99, 116, 101, 100, 32, 97, 32, 112, 108, 97, 99, 101]) ⟨98, 53, 98, 71⟩) .anil)) ⟨98, 35, 98, 72⟩) ⟨98, 28, 98, 72⟩) (.acons (.newl (.ldisp .anil ⟨98, 74, 98, 76⟩)) .anil))) ⟨98, 19, 98, 77⟩) ⟨98, 12, 98, 77⟩) .snil
abbrev b_Reader_ground_10 : S := .scons (.ret (.make 2 "Wish" ⟨99, 15, 99, 19⟩ (.acons (.glo (.str [61]) "SAME" ⟨99, 20, 99, 24⟩) (.acons (.bin .add (.var 2 "name" ⟨99, 26, 99, 30⟩) (.mth (.var 0 "self" ⟨99, 33, 99, 37⟩) 13 "take" ⟨99, 33, 99, 42⟩ (.acons (.bin .add (.glo (.str [97, 98, 99, 100, 101, 102, 103, 104, 105, 106]) "LETTERS" ⟨99, 43, 99, 50⟩) (.glo (.str [88, 89, 90]) "BOATS" ⟨99, 53, 99, 58⟩) ⟨99, 43, 99, 58⟩) (.acons (.cst (.str [101, 120, 112, 101, 99, 116, 101, 100, 32, 97, 32, 110, 97, 109, 101]) ⟨99, 60, 99, 77⟩) .anil)) ⟨99, 33, 99, 78⟩) ⟨99, 26, 99, 78⟩) (.acons (.newl (.ldisp .anil ⟨99, 80, 99, 82⟩)) .anil))) ⟨99, 15, 99, 83⟩) ⟨99, 8, 99, 83⟩) .snil
abbrev b_Reader_ground_11 : S := .scons (.ife (.cmp .eq (.mth (.var 0 "self" ⟨97, 11, 97, 15⟩) 13 "take" ⟨97, 11, 97, 20⟩ (.acons (.bin .add (.glo (.str [64]) "AT" ⟨97, 21, 97, 23⟩) (.glo (.str [61]) "SAME" ⟨97, 26, 97, 30⟩) ⟨97, 21, 97, 30⟩) (.acons (.cst (.str [101, 120, 112, 101, 99, 116, 101, 100, 32, 64, 32, 111, 114, 32, 61]) ⟨97, 32, 97, 49⟩) .anil)) ⟨97, 11, 97, 50⟩) (.glo (.str [64]) "AT" ⟨97, 54, 97, 56⟩) ⟨97, 11, 97, 56⟩) b_Reader_ground_9 .snil ⟨97, 8, 98, 77⟩) b_Reader_ground_10
abbrev b_Reader_ground_12 : S := .scons (.set 2 "name" ⟨96, 8, 96, 12⟩ (.mth (.var 0 "self" ⟨96, 15, 96, 19⟩) 13 "take" ⟨96, 15, 96, 24⟩ (.acons (.bin .add (.glo (.str [97, 98, 99, 100, 101, 102, 103, 104, 105, 106]) "LETTERS" ⟨96, 25, 96, 32⟩) (.glo (.str [88, 89, 90]) "BOATS" ⟨96, 35, 96, 40⟩) ⟨96, 25, 96, 40⟩) (.acons (.cst (.str [101, 120, 112, 101, 99, 116, 101, 100, 32, 97, 32, 119, 105, 115, 104]) ⟨96, 42, 96, 59⟩) .anil)) ⟨96, 15, 96, 60⟩) ⟨96, 8, 96, 60⟩) b_Reader_ground_11
abbrev b_Reader_ground_13 : S := .scons (.ife (.cmp .eq (.mth (.var 0 "self" ⟨87, 11, 87, 15⟩) 7 "ahead" ⟨87, 11, 87, 21⟩ .anil ⟨87, 11, 87, 23⟩) (.cst (.str [40]) ⟨87, 27, 87, 30⟩) ⟨87, 11, 87, 30⟩) b_Reader_ground_8 .snil ⟨87, 8, 95, 24⟩) b_Reader_ground_12
abbrev b_Reader_ground : S := b_Reader_ground_13
def f_Reader_ground : Fn := ⟨1, 3, b_Reader_ground⟩
/-- 13 -/
abbrev b_need_text_1 : S := .scons (.exp (.call 2 "need" ⟨101, 4, 101, 8⟩ (.acons (.bo true (.isi (.var 0 "text" ⟨101, 20, 101, 24⟩) .str ⟨101, 9, 101, 19⟩ ⟨101, 26, 101, 29⟩ ⟨101, 9, 101, 30⟩) (.acons (.cmp .le (.b1 .len (.var 0 "text" ⟨101, 39, 101, 43⟩) ⟨101, 35, 101, 38⟩ ⟨101, 35, 101, 44⟩) (.glo (.int 200) "MOST_TEXT" ⟨101, 48, 101, 57⟩) ⟨101, 35, 101, 57⟩) .anil) ⟨101, 9, 101, 57⟩) (.acons (.cst (.str [116, 101, 120, 116]) ⟨101, 59, 101, 65⟩) .anil)) ⟨101, 4, 101, 66⟩) ⟨101, 4, 101, 66⟩) .snil
abbrev b_need_text : S := b_need_text_1
def f_need_text : Fn := ⟨1, 1, b_need_text⟩
/-- 14 -/
abbrev b_Question_init_1 : S := .scons (.fld (.var 0 "self" ⟨114, 8, 114, 12⟩) 2 "inner" ⟨114, 8, 114, 18⟩ (.var 3 "inner" ⟨114, 21, 114, 26⟩) ⟨114, 8, 114, 26⟩) .snil
abbrev b_Question_init_2 : S := .scons (.fld (.var 0 "self" ⟨113, 8, 113, 12⟩) 14 "fact" ⟨113, 8, 113, 17⟩ (.var 2 "fact" ⟨113, 20, 113, 24⟩) ⟨113, 8, 113, 24⟩) b_Question_init_1
abbrev b_Question_init_3 : S := .scons (.fld (.var 0 "self" ⟨112, 8, 112, 12⟩) 0 "form" ⟨112, 8, 112, 17⟩ (.var 1 "form" ⟨112, 20, 112, 24⟩) ⟨112, 8, 112, 24⟩) b_Question_init_2
abbrev b_Question_init : S := b_Question_init_3
def f_Question_init : Fn := ⟨4, 4, b_Question_init⟩
/-- 15 -/
abbrev b_QuestionReader_init_1 : S := .scons (.rai 1 "Flaw" ⟨124, 22, 124, 26⟩ (.acons (.var 3 "place" ⟨124, 27, 124, 32⟩) (.acons (.cst (.str [116, 104, 105, 115, 32, 115, 105, 103, 110, 32, 99, 97, 110, 110, 111, 116, 32, 115, 116, 97, 110, 100, 32, 104, 101, 114, 101]) ⟨124, 34, 124, 63⟩) .anil)) ⟨124, 22, 124, 64⟩ ⟨124, 16, 124, 64⟩) .snil
abbrev b_QuestionReader_init_2 : S := .scons (.ife (.cmp .nin (.var 2 "own" ⟨123, 15, 123, 18⟩) (.glo (.str [97, 98, 99, 100, 101, 102, 103, 104, 105, 106, 48, 49, 50, 51, 88, 89, 90, 64, 61, 126, 38, 124, 40, 41, 69, 65, 78, 70, 71, 85]) "SIGNS" ⟨123, 26, 123, 31⟩) ⟨123, 15, 123, 31⟩) b_QuestionReader_init_1 .snil ⟨123, 12, 124, 64⟩) .snil
abbrev b_QuestionReader_init_3 : S := .scons (.loop (.many [(2, "own", ⟨122, 12, 122, 15⟩), (3, "place", ⟨122, 17, 122, 22⟩)] ⟨122, 12, 122, 22⟩) (.iseq (.att (.var 0 "self" ⟨122, 26, 122, 30⟩) 3 "signs" ⟨122, 26, 122, 36⟩)) b_QuestionReader_init_2 ⟨122, 8, 124, 64⟩) .snil
abbrev b_QuestionReader_init_4 : S := .scons (.fld (.var 0 "self" ⟨121, 8, 121, 12⟩) 6 "deep" ⟨121, 8, 121, 17⟩ (.cst (.int 0) ⟨121, 20, 121, 21⟩) ⟨121, 8, 121, 21⟩) b_QuestionReader_init_3
abbrev b_QuestionReader_init_5 : S := .scons (.fld (.var 0 "self" ⟨120, 8, 120, 12⟩) 5 "at" ⟨120, 8, 120, 15⟩ (.cst (.int 0) ⟨120, 18, 120, 19⟩) ⟨120, 8, 120, 19⟩) b_QuestionReader_init_4
abbrev b_QuestionReader_init_6 : S := .scons (.fld (.var 0 "self" ⟨119, 8, 119, 12⟩) 4 "size" ⟨119, 8, 119, 17⟩ (.b1 .len (.var 1 "text" ⟨119, 24, 119, 28⟩) ⟨119, 20, 119, 23⟩ ⟨119, 20, 119, 29⟩) ⟨119, 8, 119, 29⟩) b_QuestionReader_init_5
abbrev b_QuestionReader_init_7 : S := .scons (.fld (.var 0 "self" ⟨118, 8, 118, 12⟩) 3 "signs" ⟨118, 8, 118, 18⟩ (.newl (.lc (.tup (.acons (.var 2 "own" ⟨118, 23, 118, 26⟩) (.acons (.var 4 "at" ⟨118, 28, 118, 30⟩) .anil)) ⟨118, 22, 118, 31⟩) (.many [(4, "at", ⟨118, 36, 118, 38⟩), (2, "own", ⟨118, 40, 118, 43⟩)] ⟨118, 36, 118, 43⟩) (.ienum (.var 1 "text" ⟨118, 57, 118, 61⟩) ⟨118, 47, 118, 56⟩ ⟨118, 47, 118, 62⟩) (.osome (.cmp .ne (.var 2 "own" ⟨118, 66, 118, 69⟩) (.cst (.str [32]) ⟨118, 73, 118, 76⟩) ⟨118, 66, 118, 76⟩)) [("at", 4), ("own", 2)] ⟨.function, [(".0", .local), ("at", .local), ("own", .local)], false, false, []⟩ ⟨118, 21, 118, 77⟩)) ⟨118, 8, 118, 77⟩) b_QuestionReader_init_6
abbrev b_QuestionReader_init : S := b_QuestionReader_init_7
def f_QuestionReader_init : Fn := ⟨2, 5, b_QuestionReader_init⟩
/-- 16 -/
abbrev b_QuestionReader_either_1 : S := .scons (.set 1 "found" ⟨130, 12, 130, 17⟩ (.make 4 "Question" ⟨130, 20, 130, 28⟩ (.acons (.glo (.str [124]) "OR" ⟨130, 29, 130, 31⟩) (.acons (.cst (.str []) ⟨130, 33, 130, 35⟩) (.acons (.newl (.ldisp (.acons (.var 1 "found" ⟨130, 38, 130, 43⟩) (.acons (.mth (.var 0 "self" ⟨130, 45, 130, 49⟩) 10 "both" ⟨130, 45, 130, 54⟩ .anil ⟨130, 45, 130, 56⟩) .anil)) ⟨130, 37, 130, 57⟩)) .anil))) ⟨130, 20, 130, 58⟩) ⟨130, 12, 130, 58⟩) .snil
abbrev b_QuestionReader_either_2 : S := .scons (.fau (.var 0 "self" ⟨129, 12, 129, 16⟩) 5 "at" ⟨129, 12, 129, 19⟩ false (.cst (.int 1) ⟨129, 23, 129, 24⟩) ⟨129, 12, 129, 24⟩) b_QuestionReader_either_1
abbrev b_QuestionReader_either_3 : S := .scons (.ret (.var 1 "found" ⟨131, 15, 131, 20⟩) ⟨131, 8, 131, 20⟩) .snil
abbrev b_QuestionReader_either_4 : S := .scons (.whl (.cmp .eq (.mth (.var 0 "self" ⟨128, 14, 128, 18⟩) 7 "ahead" ⟨128, 14, 128, 24⟩ .anil ⟨128, 14, 128, 26⟩) (.glo (.str [124]) "OR" ⟨128, 30, 128, 32⟩) ⟨128, 14, 128, 32⟩) b_QuestionReader_either_2 ⟨128, 8, 130, 58⟩) b_QuestionReader_either_3
abbrev b_QuestionReader_either_5 : S := .scons (.set 1 "found" ⟨127, 8, 127, 13⟩ (.mth (.var 0 "self" ⟨127, 16, 127, 20⟩) 10 "both" ⟨127, 16, 127, 25⟩ .anil ⟨127, 16, 127, 27⟩) ⟨127, 8, 127, 27⟩) b_QuestionReader_either_4
abbrev b_QuestionReader_either : S := b_QuestionReader_either_5
def f_QuestionReader_either : Fn := ⟨1, 2, b_QuestionReader_either⟩
/-- 17 -/
abbrev b_QuestionReader_both_1 : S := .scons (.set 1 "found" ⟨137, 12, 137, 17⟩ (.make 4 "Question" ⟨137, 20, 137, 28⟩ (.acons (.glo (.str [38]) "AND" ⟨137, 29, 137, 32⟩) (.acons (.cst (.str []) ⟨137, 34, 137, 36⟩) (.acons (.newl (.ldisp (.acons (.var 1 "found" ⟨137, 39, 137, 44⟩) (.acons (.mth (.var 0 "self" ⟨137, 46, 137, 50⟩) 11 "single" ⟨137, 46, 137, 57⟩ .anil ⟨137, 46, 137, 59⟩) .anil)) ⟨137, 38, 137, 60⟩)) .anil))) ⟨137, 20, 137, 61⟩) ⟨137, 12, 137, 61⟩) .snil
abbrev b_QuestionReader_both_2 : S := .scons (.fau (.var 0 "self" ⟨136, 12, 136, 16⟩) 5 "at" ⟨136, 12, 136, 19⟩ false (.cst (.int 1) ⟨136, 23, 136, 24⟩) ⟨136, 12, 136, 24⟩) b_QuestionReader_both_1
abbrev b_QuestionReader_both_3 : S := .scons (.ret (.var 1 "found" ⟨138, 15, 138, 20⟩) ⟨138, 8, 138, 20⟩) .snil
abbrev b_QuestionReader_both_4 : S := .scons (.whl (.cmp .eq (.mth (.var 0 "self" ⟨135, 14, 135, 18⟩) 7 "ahead" ⟨135, 14, 135, 24⟩ .anil ⟨135, 14, 135, 26⟩) (.glo (.str [38]) "AND" ⟨135, 30, 135, 33⟩) ⟨135, 14, 135, 33⟩) b_QuestionReader_both_2 ⟨135, 8, 137, 61⟩) b_QuestionReader_both_3
abbrev b_QuestionReader_both_5 : S := .scons (.set 1 "found" ⟨134, 8, 134, 13⟩ (.mth (.var 0 "self" ⟨134, 16, 134, 20⟩) 11 "single" ⟨134, 16, 134, 27⟩ .anil ⟨134, 16, 134, 29⟩) ⟨134, 8, 134, 29⟩) b_QuestionReader_both_4
abbrev b_QuestionReader_both : S := b_QuestionReader_both_5
def f_QuestionReader_both : Fn := ⟨1, 2, b_QuestionReader_both⟩
/-- 18 -/
abbrev b_QuestionReader_single_1 : S := .scons (.exp (.bm .append (.var 1 "forms" ⟨146, 16, 146, 21⟩) (.acons (.glo (.str [126]) "NOT" ⟨146, 29, 146, 32⟩) .anil) ⟨146, 16, 146, 28⟩ ⟨146, 16, 146, 33⟩) ⟨146, 16, 146, 33⟩) .snil
abbrev b_QuestionReader_single_2 : S := .scons (.ret (.call 23 "wrapped" ⟨148, 23, 148, 30⟩ (.acons (.var 1 "forms" ⟨148, 31, 148, 36⟩) (.acons (.mth (.var 0 "self" ⟨148, 38, 148, 42⟩) 15 "until" ⟨148, 38, 148, 48⟩ (.acons (.var 2 "sign" ⟨148, 49, 148, 53⟩) .anil) ⟨148, 38, 148, 54⟩) .anil)) ⟨148, 23, 148, 55⟩) ⟨148, 16, 148, 55⟩) .snil
abbrev b_QuestionReader_single_3 : S := .scons (.exp (.bm .append (.var 1 "forms" ⟨150, 16, 150, 21⟩) (.acons (.bin .add (.var 2 "sign" ⟨150, 29, 150, 33⟩) (.mth (.var 0 "self" ⟨150, 36, 150, 40⟩) 13 "take" ⟨150, 36, 150, 45⟩ (.acons (.glo (.str [78, 70, 71]) "STEPS" ⟨150, 46, 150, 51⟩) (.acons (.cst (.str [101, 120, 112, 101, 99, 116, 101, 100, 32, 78, 44, 32, 70, 44, 32, 71, 32, 111, 114, 32, 40]) ⟨150, 53, 150, 76⟩) .anil)) ⟨150, 36, 150, 77⟩) ⟨150, 29, 150, 77⟩) .anil) ⟨150, 16, 150, 28⟩ ⟨150, 16, 150, 78⟩) ⟨150, 16, 150, 78⟩) .snil
abbrev b_QuestionReader_single_4 : S := .scons (.ife (.cmp .eq (.mth (.var 0 "self" ⟨147, 17, 147, 21⟩) 7 "ahead" ⟨147, 17, 147, 27⟩ .anil ⟨147, 17, 147, 29⟩) (.cst (.str [40]) ⟨147, 33, 147, 36⟩) ⟨147, 17, 147, 36⟩) b_QuestionReader_single_2 b_QuestionReader_single_3 ⟨147, 12, 150, 78⟩) .snil
abbrev b_QuestionReader_single_5 : S := .scons (.ife (.cmp .eq (.var 2 "sign" ⟨145, 15, 145, 19⟩) (.glo (.str [126]) "NOT" ⟨145, 23, 145, 26⟩) ⟨145, 15, 145, 26⟩) b_QuestionReader_single_1 b_QuestionReader_single_4 ⟨145, 12, 150, 78⟩) .snil
abbrev b_QuestionReader_single_6 : S := .scons (.fau (.var 0 "self" ⟨144, 12, 144, 16⟩) 5 "at" ⟨144, 12, 144, 19⟩ false (.cst (.int 1) ⟨144, 23, 144, 24⟩) ⟨144, 12, 144, 24⟩) b_QuestionReader_single_5
abbrev b_QuestionReader_single_7 : S := .scons (.set 2 "sign" ⟨143, 12, 143, 16⟩ (.mth (.var 0 "self" ⟨143, 19, 143, 23⟩) 7 "ahead" ⟨143, 19, 143, 29⟩ .anil ⟨143, 19, 143, 31⟩) ⟨143, 12, 143, 31⟩) b_QuestionReader_single_6
abbrev b_QuestionReader_single_8 : S := .scons (.ret (.call 23 "wrapped" ⟨151, 15, 151, 22⟩ (.acons (.var 1 "forms" ⟨151, 23, 151, 28⟩) (.acons (.mth (.var 0 "self" ⟨151, 30, 151, 34⟩) 12 "ground" ⟨151, 30, 151, 41⟩ .anil ⟨151, 30, 151, 43⟩) .anil)) ⟨151, 15, 151, 44⟩) ⟨151, 8, 151, 44⟩) .snil
abbrev b_QuestionReader_single_9 : S := .scons (.whl (.cmp .inn (.mth (.var 0 "self" ⟨142, 14, 142, 18⟩) 7 "ahead" ⟨142, 14, 142, 24⟩ .anil ⟨142, 14, 142, 26⟩) (.tup (.acons (.glo (.str [126]) "NOT" ⟨142, 31, 142, 34⟩) (.acons (.glo (.str [69]) "SOME" ⟨142, 36, 142, 40⟩) (.acons (.glo (.str [65]) "ALL" ⟨142, 42, 142, 45⟩) .anil))) ⟨142, 30, 142, 46⟩) ⟨142, 14, 142, 46⟩) b_QuestionReader_single_7 ⟨142, 8, 150, 78⟩) b_QuestionReader_single_8
abbrev b_QuestionReader_single_10 : S := .scons (.set 1 "forms" ⟨141, 8, 141, 13⟩ (.newl (.ldisp .anil ⟨141, 16, 141, 18⟩)) ⟨141, 8, 141, 18⟩) b_QuestionReader_single_9
abbrev b_QuestionReader_single : S := b_QuestionReader_single_10
def f_QuestionReader_single : Fn := ⟨1, 3, b_QuestionReader_single⟩
/-- 19 -/
abbrev b_QuestionReader_begin_group_1 : S := .scons (.exp (.mth (.var 0 "self" ⟨155, 12, 155, 16⟩) 8 "fail" ⟨155, 12, 155, 21⟩ (.acons (.cst (.str [116, 104, 105, 115, 32, 105, 115, 32, 116, 111, 111, 32, 100, 101, 101, 112]) ⟨155, 22, 155, 40⟩) .anil) ⟨155, 12, 155, 41⟩) ⟨155, 12, 155, 41⟩) .snil
abbrev b_QuestionReader_begin_group_2 : S := .scons (.fau (.var 0 "self" ⟨157, 8, 157, 12⟩) 6 "deep" ⟨157, 8, 157, 17⟩ false (.cst (.int 1) ⟨157, 21, 157, 22⟩) ⟨157, 8, 157, 22⟩) .snil
abbrev b_QuestionReader_begin_group_3 : S := .scons (.fau (.var 0 "self" ⟨156, 8, 156, 12⟩) 5 "at" ⟨156, 8, 156, 15⟩ false (.cst (.int 1) ⟨156, 19, 156, 20⟩) ⟨156, 8, 156, 20⟩) b_QuestionReader_begin_group_2
abbrev b_QuestionReader_begin_group_4 : S := .scons (.ife (.cmp .eq (.att (.var 0 "self" ⟨154, 11, 154, 15⟩) 6 "deep" ⟨154, 11, 154, 20⟩) (.glo (.int 20) "MOST_DEEP" ⟨154, 24, 154, 33⟩) ⟨154, 11, 154, 33⟩) b_QuestionReader_begin_group_1 .snil ⟨154, 8, 155, 41⟩) b_QuestionReader_begin_group_3
abbrev b_QuestionReader_begin_group : S := b_QuestionReader_begin_group_4
def f_QuestionReader_begin_group : Fn := ⟨1, 1, b_QuestionReader_begin_group⟩
/-- 20 -/
abbrev b_QuestionReader_end_group_1 : S := .scons (.fau (.var 0 "self" ⟨161, 8, 161, 12⟩) 6 "deep" ⟨161, 8, 161, 17⟩ true (.cst (.int 1) ⟨161, 21, 161, 22⟩) ⟨161, 8, 161, 22⟩) .snil
abbrev b_QuestionReader_end_group_2 : S := .scons (.exp (.mth (.var 0 "self" ⟨160, 8, 160, 12⟩) 13 "take" ⟨160, 8, 160, 17⟩ (.acons (.cst (.str [41]) ⟨160, 18, 160, 21⟩) (.acons (.cst (.str [101, 120, 112, 101, 99, 116, 101, 100, 32, 41]) ⟨160, 23, 160, 35⟩) .anil)) ⟨160, 8, 160, 36⟩) ⟨160, 8, 160, 36⟩) b_QuestionReader_end_group_1
abbrev b_QuestionReader_end_group : S := b_QuestionReader_end_group_2
def f_QuestionReader_end_group : Fn := ⟨1, 1, b_QuestionReader_end_group⟩
/-- 21 -/
abbrev b_QuestionReader_until_1 : S := .scons (.ret (.var 3 "found" ⟨169, 15, 169, 20⟩) ⟨169, 8, 169, 20⟩) .snil
abbrev b_QuestionReader_until_2 : S := .scons (.exp (.mth (.var 0 "self" ⟨168, 8, 168, 12⟩) 17 "end_group" ⟨168, 8, 168, 22⟩ .anil ⟨168, 8, 168, 24⟩) ⟨168, 8, 168, 24⟩) b_QuestionReader_until_1
abbrev b_QuestionReader_until_3 : S := .scons (.set 3 "found" ⟨167, 8, 167, 13⟩ (.make 4 "Question" ⟨167, 16, 167, 24⟩ (.acons (.bin .add (.var 1 "sign" ⟨167, 25, 167, 29⟩) (.glo (.str [85]) "UNTIL" ⟨167, 32, 167, 37⟩) ⟨167, 25, 167, 37⟩) (.acons (.cst (.str []) ⟨167, 39, 167, 41⟩) (.acons (.newl (.ldisp (.acons (.var 2 "first" ⟨167, 44, 167, 49⟩) (.acons (.mth (.var 0 "self" ⟨167, 51, 167, 55⟩) 9 "either" ⟨167, 51, 167, 62⟩ .anil ⟨167, 51, 167, 64⟩) .anil)) ⟨167, 43, 167, 65⟩)) .anil))) ⟨167, 16, 167, 66⟩) ⟨167, 8, 167, 66⟩) b_QuestionReader_until_2
abbrev b_QuestionReader_until_4 : S := .scons (.exp (.mth (.var 0 "self" ⟨166, 8, 166, 12⟩) 13 "take" ⟨166, 8, 166, 17⟩ (.acons (.glo (.str [85]) "UNTIL" ⟨166, 18, 166, 23⟩) (.acons (.cst (.str [101, 120, 112, 101, 99, 116, 101, 100, 32, 85]) ⟨166, 25, 166, 37⟩) .anil)) ⟨166, 8, 166, 38⟩) ⟨166, 8, 166, 38⟩) b_QuestionReader_until_3
abbrev b_QuestionReader_until_5 : S := .scons (.set 2 "first" ⟨165, 8, 165, 13⟩ (.mth (.var 0 "self" ⟨165, 16, 165, 20⟩) 9 "either" ⟨165, 16, 165, 27⟩ .anil ⟨165, 16, 165, 29⟩) ⟨165, 8, 165, 29⟩) b_QuestionReader_until_4
abbrev b_QuestionReader_until_6 : S := .scons (.exp (.mth (.var 0 "self" ⟨164, 8, 164, 12⟩) 16 "begin_group" ⟨164, 8, 164, 24⟩ .anil ⟨164, 8, 164, 26⟩) ⟨164, 8, 164, 26⟩) b_QuestionReader_until_5
abbrev b_QuestionReader_until : S := b_QuestionReader_until_6
def f_QuestionReader_until : Fn := ⟨2, 4, b_QuestionReader_until⟩
/-- 22 -/
abbrev b_QuestionReader_ground_1 : S := .scons (.ret (.var 1 "found" ⟨176, 19, 176, 24⟩) ⟨176, 12, 176, 24⟩) .snil
abbrev b_QuestionReader_ground_2 : S := .scons (.exp (.mth (.var 0 "self" ⟨175, 12, 175, 16⟩) 17 "end_group" ⟨175, 12, 175, 26⟩ .anil ⟨175, 12, 175, 28⟩) ⟨175, 12, 175, 28⟩) b_QuestionReader_ground_1
abbrev b_QuestionReader_ground_3 : S := .scons (.set 1 "found" ⟨174, 12, 174, 17⟩ (.mth (.var 0 "self" ⟨174, 20, 174, 24⟩) 9 "either" ⟨174, 20, 174, 31⟩ .anil ⟨174, 20, 174, 33⟩) ⟨174, 12, 174, 33⟩) b_QuestionReader_ground_2
abbrev b_QuestionReader_ground_4 : S := .scons (.exp (.mth (.var 0 "self" ⟨173, 12, 173, 16⟩) 16 "begin_group" ⟨173, 12, 173, 28⟩ .anil ⟨173, 12, 173, 30⟩) ⟨173, 12, 173, 30⟩) b_QuestionReader_ground_3
abbrev b_QuestionReader_ground_5 : S := .scons (.ret (.make 4 "Question" ⟨179, 19, 179, 27⟩ (.acons (.glo (.str [102, 97, 99, 116]) "FACT" ⟨179, 28, 179, 32⟩) (.acons (.bin .add (.bin .add (.var 2 "name" ⟨179, 34, 179, 38⟩) (.glo (.str [64]) "AT" ⟨179, 41, 179, 43⟩) ⟨179, 34, 179, 43⟩) (.mth (.var 0 "self" ⟨179, 46, 179, 50⟩) 13 "take" ⟨179, 46, 179, 55⟩ (.acons (.glo (.str [48, 49, 50, 51]) "DIGITS" ⟨179, 56, 179, 62⟩) (.acons (.cst (.str [101, 120, 112, 101, 99, 116, 101, 100, 32, 97, 32, 112, 108, 97, 99, 101]) ⟨179, 64, 179, 82⟩) .anil)) ⟨179, 46, 179, 83⟩) ⟨179, 34, 179, 83⟩) (.acons (.newl (.ldisp .anil ⟨179, 85, 179, 87⟩)) .anil))) ⟨179, 19, 179, 88⟩) ⟨179, 12, 179, 88⟩) .snil
abbrev b_QuestionReader_ground_6 : S := .scons (.ret (.make 4 "Question" ⟨180, 15, 180, 23⟩ (.acons (.glo (.str [102, 97, 99, 116]) "FACT" ⟨180, 24, 180, 28⟩) (.acons (.bin .add (.bin .add (.var 2 "name" ⟨180, 30, 180, 34⟩) (.glo (.str [61]) "SAME" ⟨180, 37, 180, 41⟩) ⟨180, 30, 180, 41⟩) (.mth (.var 0 "self" ⟨180, 44, 180, 48⟩) 13 "take" ⟨180, 44, 180, 53⟩ (.acons (.bin .add (.glo (.str [97, 98, 99, 100, 101, 102, 103, 104, 105, 106]) "LETTERS" ⟨180, 54, 180, 61⟩) (.glo (.str [88, 89, 90]) "BOATS" ⟨180, 64, 180, 69⟩) ⟨180, 54, 180, 69⟩) (.acons (.cst (.str [101, 120, 112, 101, 99, 116, 101, 100, 32, 97, 32, 110, 97, 109, 101]) ⟨180, 71, 180, 88⟩) .anil)) ⟨180, 44, 180, 89⟩) ⟨180, 30, 180, 89⟩) (.acons (.newl (.ldisp .anil ⟨180, 91, 180, 93⟩)) .anil))) ⟨180, 15, 180, 94⟩) ⟨180, 8, 180, 94⟩) .snil
abbrev b_QuestionReader_ground_7 : S := .scons (.ife (.cmp .eq (.mth (.var 0 "self" ⟨178, 11, 178, 15⟩) 13 "take" ⟨178, 11, 178, 20⟩ (.acons (.bin .add (.glo (.str [64]) "AT" ⟨178, 21, 178, 23⟩) (.glo (.str [61]) "SAME" ⟨178, 26, 178, 30⟩) ⟨178, 21, 178, 30⟩) (.acons (.cst (.str [101, 120, 112, 101, 99, 116, 101, 100, 32, 64, 32, 111, 114, 32, 61]) ⟨178, 32, 178, 49⟩) .anil)) ⟨178, 11, 178, 50⟩) (.glo (.str [64]) "AT" ⟨178, 54, 178, 56⟩) ⟨178, 11, 178, 56⟩) b_QuestionReader_ground_5 .snil ⟨178, 8, 179, 88⟩) b_QuestionReader_ground_6
abbrev b_QuestionReader_ground_8 : S := .scons (.set 2 "name" ⟨177, 8, 177, 12⟩ (.mth (.var 0 "self" ⟨177, 15, 177, 19⟩) 13 "take" ⟨177, 15, 177, 24⟩ (.acons (.bin .add (.glo (.str [97, 98, 99, 100, 101, 102, 103, 104, 105, 106]) "LETTERS" ⟨177, 25, 177, 32⟩) (.glo (.str [88, 89, 90]) "BOATS" ⟨177, 35, 177, 40⟩) ⟨177, 25, 177, 40⟩) (.acons (.cst (.str [101, 120, 112, 101, 99, 116, 101, 100, 32, 97, 32, 113, 117, 101, 115, 116, 105, 111, 110]) ⟨177, 42, 177, 63⟩) .anil)) ⟨177, 15, 177, 64⟩) ⟨177, 8, 177, 64⟩) b_QuestionReader_ground_7
abbrev b_QuestionReader_ground_9 : S := .scons (.ife (.cmp .eq (.mth (.var 0 "self" ⟨172, 11, 172, 15⟩) 7 "ahead" ⟨172, 11, 172, 21⟩ .anil ⟨172, 11, 172, 23⟩) (.cst (.str [40]) ⟨172, 27, 172, 30⟩) ⟨172, 11, 172, 30⟩) b_QuestionReader_ground_4 .snil ⟨172, 8, 176, 24⟩) b_QuestionReader_ground_8
abbrev b_QuestionReader_ground : S := b_QuestionReader_ground_9
def f_QuestionReader_ground : Fn := ⟨1, 3, b_QuestionReader_ground⟩
/-- 23 -/
abbrev b_wrapped_1 : S := .scons (.set 1 "question" ⟨183, 8, 183, 16⟩ (.make 4 "Question" ⟨183, 19, 183, 27⟩ (.acons (.var 2 "form" ⟨183, 28, 183, 32⟩) (.acons (.cst (.str []) ⟨183, 34, 183, 36⟩) (.acons (.newl (.ldisp (.acons (.var 1 "question" ⟨183, 39, 183, 47⟩) .anil) ⟨183, 38, 183, 48⟩)) .anil))) ⟨183, 19, 183, 49⟩) ⟨183, 8, 183, 49⟩) .snil
abbrev b_wrapped_2 : S := .scons (.ret (.var 1 "question" ⟨184, 11, 184, 19⟩) ⟨184, 4, 184, 19⟩) .snil
abbrev b_wrapped_3 : S := .scons (.loop (.one 2 "form" ⟨182, 8, 182, 12⟩) (.iseq (.rev (.var 0 "forms" ⟨182, 16, 182, 21⟩) ⟨182, 25, 182, 26⟩ ⟨182, 24, 182, 26⟩ ⟨182, 22, 182, 26⟩ ⟨182, 16, 182, 27⟩)) b_wrapped_1 ⟨182, 4, 183, 49⟩) b_wrapped_2
abbrev b_wrapped : S := b_wrapped_3
def f_wrapped : Fn := ⟨2, 3, b_wrapped⟩
/-- 24 -/
abbrev b_question_flaw_1 : S := .scons (.exp (.mth (.make 5 "QuestionReader" ⟨188, 8, 188, 22⟩ (.acons (.var 0 "text" ⟨188, 23, 188, 27⟩) .anil) ⟨188, 8, 188, 28⟩) 20 "whole" ⟨188, 8, 188, 34⟩ .anil ⟨188, 8, 188, 36⟩) ⟨188, 8, 188, 36⟩) .snil
abbrev b_question_flaw_2 : S := .scons (.ret (.cst .non ⟨191, 11, 191, 15⟩) ⟨191, 4, 191, 15⟩) .snil
abbrev b_question_flaw_3 : S := .scons (.tryr b_question_flaw_1 1 "Flaw" ⟨189, 11, 189, 15⟩ 1 "e" (.tup [(18, "place", ⟨190, 16, 190, 17⟩, ⟨190, 16, 190, 23⟩), (19, "message", ⟨190, 25, 190, 26⟩, ⟨190, 25, 190, 34⟩)] ⟨190, 15, 190, 35⟩) ⟨190, 8, 190, 35⟩ ⟨189, 4, 190, 35⟩ ⟨187, 4, 190, 35⟩) b_question_flaw_2
abbrev b_question_flaw_4 : S := .scons (.exp (.call 13 "need_text" ⟨186, 4, 186, 13⟩ (.acons (.var 0 "text" ⟨186, 14, 186, 18⟩) .anil) ⟨186, 4, 186, 19⟩) ⟨186, 4, 186, 19⟩) b_question_flaw_3
abbrev b_question_flaw : S := b_question_flaw_4
def f_question_flaw : Fn := ⟨1, 2, b_question_flaw⟩
/-- 25 -/
abbrev b_written_question_1 : S := .scons (.ret (.att (.var 0 "question" ⟨195, 15, 195, 23⟩) 14 "fact" ⟨195, 15, 195, 28⟩) ⟨195, 8, 195, 28⟩) .snil
abbrev b_written_question_2 : S := .scons (.ret (.bin .add (.bin .add (.bin .add (.bin .add (.bin .add (.ix (.var 2 "form" ⟨197, 15, 197, 19⟩) (.cst (.int 0) ⟨197, 20, 197, 21⟩) ⟨197, 15, 197, 22⟩) (.cst (.str [40]) ⟨197, 25, 197, 28⟩) ⟨197, 15, 197, 28⟩) (.call 25 "written_question" ⟨197, 31, 197, 47⟩ (.acons (.ix (.var 3 "inner" ⟨197, 48, 197, 53⟩) (.cst (.int 0) ⟨197, 54, 197, 55⟩) ⟨197, 48, 197, 56⟩) (.acons (.cst (.int 0) ⟨197, 58, 197, 59⟩) .anil)) ⟨197, 31, 197, 60⟩) ⟨197, 15, 197, 60⟩) (.glo (.str [85]) "UNTIL" ⟨197, 63, 197, 68⟩) ⟨197, 15, 197, 68⟩) (.call 25 "written_question" ⟨197, 71, 197, 87⟩ (.acons (.ix (.var 3 "inner" ⟨197, 88, 197, 93⟩) (.cst (.int 1) ⟨197, 94, 197, 95⟩) ⟨197, 88, 197, 96⟩) (.acons (.cst (.int 0) ⟨197, 98, 197, 99⟩) .anil)) ⟨197, 71, 197, 100⟩) ⟨197, 15, 197, 100⟩) (.cst (.str [41]) ⟨197, 103, 197, 106⟩) ⟨197, 15, 197, 106⟩) ⟨197, 8, 197, 106⟩) .snil
abbrev b_written_question_3 : S := .scons (.ret (.bin .add (.var 2 "form" ⟨199, 15, 199, 19⟩) (.call 25 "written_question" ⟨199, 22, 199, 38⟩ (.acons (.ix (.var 3 "inner" ⟨199, 39, 199, 44⟩) (.cst (.int 0) ⟨199, 45, 199, 46⟩) ⟨199, 39, 199, 47⟩) (.acons (.cst (.int 2) ⟨199, 49, 199, 50⟩) .anil)) ⟨199, 22, 199, 51⟩) ⟨199, 15, 199, 51⟩) ⟨199, 8, 199, 51⟩) .snil
abbrev b_written_question_4 : S := .scons (.ret (.ife (.cmp .lt (.var 4 "own" ⟨202, 31, 202, 34⟩) (.var 1 "level" ⟨202, 37, 202, 42⟩) ⟨202, 31, 202, 42⟩) (.bin .add (.bin .add (.cst (.str [40]) ⟨202, 11, 202, 14⟩) (.var 5 "text" ⟨202, 17, 202, 21⟩) ⟨202, 11, 202, 21⟩) (.cst (.str [41]) ⟨202, 24, 202, 27⟩) ⟨202, 11, 202, 27⟩) (.var 5 "text" ⟨202, 48, 202, 52⟩) ⟨202, 11, 202, 52⟩) ⟨202, 4, 202, 52⟩) .snil
abbrev b_written_question_5 : S := .scons (.set 5 "text" ⟨201, 4, 201, 8⟩ (.bin .add (.bin .add (.call 25 "written_question" ⟨201, 11, 201, 27⟩ (.acons (.ix (.var 3 "inner" ⟨201, 28, 201, 33⟩) (.cst (.int 0) ⟨201, 34, 201, 35⟩) ⟨201, 28, 201, 36⟩) (.acons (.var 4 "own" ⟨201, 38, 201, 41⟩) .anil)) ⟨201, 11, 201, 42⟩) (.var 2 "form" ⟨201, 45, 201, 49⟩) ⟨201, 11, 201, 49⟩) (.call 25 "written_question" ⟨201, 52, 201, 68⟩ (.acons (.ix (.var 3 "inner" ⟨201, 69, 201, 74⟩) (.cst (.int 1) ⟨201, 75, 201, 76⟩) ⟨201, 69, 201, 77⟩) (.acons (.bin .add (.var 4 "own" ⟨201, 79, 201, 82⟩) (.cst (.int 1) ⟨201, 85, 201, 86⟩) ⟨201, 79, 201, 86⟩) .anil)) ⟨201, 52, 201, 87⟩) ⟨201, 11, 201, 87⟩) ⟨201, 4, 201, 87⟩) b_written_question_4
abbrev b_written_question_6 : S := .scons (.set 4 "own" ⟨200, 4, 200, 7⟩ (.ife (.cmp .eq (.var 2 "form" ⟨200, 15, 200, 19⟩) (.glo (.str [124]) "OR" ⟨200, 23, 200, 25⟩) ⟨200, 15, 200, 25⟩) (.cst (.int 0) ⟨200, 10, 200, 11⟩) (.cst (.int 1) ⟨200, 31, 200, 32⟩) ⟨200, 10, 200, 32⟩) ⟨200, 4, 200, 32⟩) b_written_question_5
abbrev b_written_question_7 : S := .scons (.ife (.cmp .nin (.var 2 "form" ⟨198, 7, 198, 11⟩) (.tup (.acons (.glo (.str [38]) "AND" ⟨198, 20, 198, 23⟩) (.acons (.glo (.str [124]) "OR" ⟨198, 25, 198, 27⟩) .anil)) ⟨198, 19, 198, 28⟩) ⟨198, 7, 198, 28⟩) b_written_question_3 .snil ⟨198, 4, 199, 51⟩) b_written_question_6
abbrev b_written_question_8 : S := .scons (.ife (.cmp .inn (.var 2 "form" ⟨196, 7, 196, 11⟩) (.tup (.acons (.bin .add (.glo (.str [69]) "SOME" ⟨196, 16, 196, 20⟩) (.glo (.str [85]) "UNTIL" ⟨196, 23, 196, 28⟩) ⟨196, 16, 196, 28⟩) (.acons (.bin .add (.glo (.str [65]) "ALL" ⟨196, 30, 196, 33⟩) (.glo (.str [85]) "UNTIL" ⟨196, 36, 196, 41⟩) ⟨196, 30, 196, 41⟩) .anil)) ⟨196, 15, 196, 42⟩) ⟨196, 7, 196, 42⟩) b_written_question_2 .snil ⟨196, 4, 197, 106⟩) b_written_question_7
abbrev b_written_question_9 : S := .scons (.ife (.cmp .eq (.var 2 "form" ⟨194, 7, 194, 11⟩) (.glo (.str [102, 97, 99, 116]) "FACT" ⟨194, 15, 194, 19⟩) ⟨194, 7, 194, 19⟩) b_written_question_1 .snil ⟨194, 4, 195, 28⟩) b_written_question_8
abbrev b_written_question_10 : S := .scons (.par [(2, "form", ⟨193, 4, 193, 8⟩), (3, "inner", ⟨193, 10, 193, 15⟩)] ⟨193, 4, 193, 15⟩ (.acons (.att (.var 0 "question" ⟨193, 19, 193, 27⟩) 0 "form" ⟨193, 19, 193, 32⟩) (.acons (.att (.var 0 "question" ⟨193, 34, 193, 42⟩) 2 "inner" ⟨193, 34, 193, 48⟩) .anil)) ⟨193, 18, 193, 49⟩ ⟨193, 4, 193, 49⟩) b_written_question_9
abbrev b_written_question : S := b_written_question_10
def f_written_question : Fn := ⟨2, 6, b_written_question⟩
/-- 26 -/
abbrev b_plain_question_1 : S := .scons (.ret (.ife (.cmp .isn (.call 24 "question_flaw" ⟨205, 19, 205, 32⟩ (.acons (.var 0 "text" ⟨205, 33, 205, 37⟩) .anil) ⟨205, 19, 205, 38⟩) (.cst .non ⟨205, 46, 205, 50⟩) ⟨205, 19, 205, 50⟩) (.cst .non ⟨205, 11, 205, 15⟩) (.call 25 "written_question" ⟨205, 56, 205, 72⟩ (.acons (.mth (.make 5 "QuestionReader" ⟨205, 73, 205, 87⟩ (.acons (.var 0 "text" ⟨205, 88, 205, 92⟩) .anil) ⟨205, 73, 205, 93⟩) 20 "whole" ⟨205, 73, 205, 99⟩ .anil ⟨205, 73, 205, 101⟩) (.acons (.cst (.int 0) ⟨205, 103, 205, 104⟩) .anil)) ⟨205, 56, 205, 105⟩) ⟨205, 11, 205, 105⟩) ⟨205, 4, 205, 105⟩) .snil
abbrev b_plain_question_2 : S := .scons (.exp (.call 13 "need_text" ⟨204, 4, 204, 13⟩ (.acons (.var 0 "text" ⟨204, 14, 204, 18⟩) .anil) ⟨204, 4, 204, 19⟩) ⟨204, 4, 204, 19⟩) b_plain_question_1
abbrev b_plain_question : S := b_plain_question_2
def f_plain_question : Fn := ⟨1, 1, b_plain_question⟩
/-- 27 -/
abbrev b_L_taken_1 : S := .scons (.ret (.var 2 "found" ⟨211, 15, 211, 20⟩) ⟨211, 8, 211, 20⟩) .snil
abbrev b_L_taken_2 : S := .scons (.sub (.var 0 "row" ⟨210, 8, 210, 11⟩) (.cst (.int 3) ⟨210, 12, 210, 13⟩) ⟨210, 8, 210, 14⟩ (.bin .fdiv (.ix (.var 0 "row" ⟨210, 17, 210, 20⟩) (.cst (.int 3) ⟨210, 21, 210, 22⟩) ⟨210, 17, 210, 23⟩) (.var 1 "many" ⟨210, 27, 210, 31⟩) ⟨210, 17, 210, 31⟩) ⟨210, 8, 210, 31⟩) b_L_taken_1
abbrev b_L_taken_3 : S := .scons (.set 2 "found" ⟨209, 8, 209, 13⟩ (.bin .mod (.b1 .int (.ix (.var 0 "row" ⟨209, 20, 209, 23⟩) (.cst (.int 3) ⟨209, 24, 209, 25⟩) ⟨209, 20, 209, 26⟩) ⟨209, 16, 209, 19⟩ ⟨209, 16, 209, 27⟩) (.var 1 "many" ⟨209, 30, 209, 34⟩) ⟨209, 16, 209, 34⟩) ⟨209, 8, 209, 34⟩) b_L_taken_2
abbrev b_L_taken_4 : S := .scons (.ret (.bin .mod (.b1 .int (.bin .fdiv (.ix (.var 0 "row" ⟨215, 19, 215, 22⟩) (.cst (.int 2) ⟨215, 23, 215, 24⟩) ⟨215, 19, 215, 25⟩) (.cst (.int 7) ⟨215, 29, 215, 30⟩) ⟨215, 19, 215, 30⟩) ⟨215, 15, 215, 18⟩ ⟨215, 15, 215, 31⟩) (.var 1 "many" ⟨215, 34, 215, 38⟩) ⟨215, 15, 215, 38⟩) ⟨215, 8, 215, 38⟩) .snil
abbrev b_L_taken_5 : S := .scons (.sub (.var 0 "row" ⟨214, 8, 214, 11⟩) (.cst (.int 2) ⟨214, 12, 214, 13⟩) ⟨214, 8, 214, 14⟩ (.bin .mod (.b1 .int (.bin .add (.bin .mul (.ix (.var 0 "row" ⟨214, 21, 214, 24⟩) (.cst (.int 2) ⟨214, 25, 214, 26⟩) ⟨214, 21, 214, 27⟩) (.cst (.int 48271) ⟨214, 30, 214, 35⟩) ⟨214, 21, 214, 35⟩) (.cst (.int 11) ⟨214, 38, 214, 40⟩) ⟨214, 21, 214, 40⟩) ⟨214, 17, 214, 20⟩ ⟨214, 17, 214, 41⟩) (.cst (.int 2147483647) ⟨214, 44, 214, 54⟩) ⟨214, 17, 214, 54⟩) ⟨214, 8, 214, 54⟩) b_L_taken_4
abbrev b_L_taken_6 : S := .scons (.sub (.var 0 "row" ⟨219, 8, 219, 11⟩) (.cst (.int 3) ⟨219, 12, 219, 13⟩) ⟨219, 8, 219, 14⟩ (.bin .fdiv (.b1 .int (.bin .mod (.b1 .int (.var 3 "cell" ⟨219, 25, 219, 29⟩) ⟨219, 21, 219, 24⟩ ⟨219, 21, 219, 30⟩) (.bin .pow (.cst (.int 10) ⟨219, 33, 219, 35⟩) (.cst (.int 90) ⟨219, 39, 219, 41⟩) ⟨219, 33, 219, 41⟩) ⟨219, 21, 219, 41⟩) ⟨219, 17, 219, 20⟩ ⟨219, 17, 219, 42⟩) (.var 1 "many" ⟨219, 46, 219, 50⟩) ⟨219, 17, 219, 50⟩) ⟨219, 8, 219, 50⟩) .snil
abbrev b_L_taken_7 : S := .scons (.ret (.bin .mod (.b1 .int (.var 3 "cell" ⟨220, 15, 220, 19⟩) ⟨220, 11, 220, 14⟩ ⟨220, 11, 220, 20⟩) (.var 1 "many" ⟨220, 23, 220, 27⟩) ⟨220, 11, 220, 27⟩) ⟨220, 4, 220, 27⟩) .snil
abbrev b_L_taken_8 : S := .scons (.ife (.cmp .ge (.var 3 "cell" ⟨218, 7, 218, 11⟩) (.bin .pow (.cst (.int 10) ⟨218, 15, 218, 17⟩) (.cst (.int 18) ⟨218, 21, 218, 23⟩) ⟨218, 15, 218, 23⟩) ⟨218, 7, 218, 23⟩) b_L_taken_6 .snil ⟨218, 4, 219, 50⟩) b_L_taken_7
abbrev b_L_taken_9 : S := .scons (.sub (.var 0 "row" ⟨217, 4, 217, 7⟩) (.cst (.int 2) ⟨217, 8, 217, 9⟩) ⟨217, 4, 217, 10⟩ (.bin .mod (.b1 .int (.bin .add (.bin .add (.bin .mul (.ix (.var 0 "row" ⟨217, 17, 217, 20⟩) (.cst (.int 2) ⟨217, 21, 217, 22⟩) ⟨217, 17, 217, 23⟩) (.cst (.int 48271) ⟨217, 26, 217, 31⟩) ⟨217, 17, 217, 31⟩) (.b1 .int (.var 3 "cell" ⟨217, 38, 217, 42⟩) ⟨217, 34, 217, 37⟩ ⟨217, 34, 217, 43⟩) ⟨217, 17, 217, 43⟩) (.cst (.int 11) ⟨217, 46, 217, 48⟩) ⟨217, 17, 217, 48⟩) ⟨217, 13, 217, 16⟩ ⟨217, 13, 217, 49⟩) (.cst (.int 2147483647) ⟨217, 52, 217, 62⟩) ⟨217, 13, 217, 62⟩) ⟨217, 4, 217, 62⟩) b_L_taken_8
abbrev b_L_taken_10 : S := .scons (.set 3 "cell" ⟨216, 4, 216, 8⟩ (.ix (.ix (.var 0 "row" ⟨216, 11, 216, 14⟩) (.cst (.int 0) ⟨216, 15, 216, 16⟩) ⟨216, 11, 216, 17⟩) (.bin .sub (.ix (.var 0 "row" ⟨216, 18, 216, 21⟩) (.cst (.int 1) ⟨216, 22, 216, 23⟩) ⟨216, 18, 216, 24⟩) (.cst (.int 1) ⟨216, 27, 216, 28⟩) ⟨216, 18, 216, 28⟩) ⟨216, 11, 216, 29⟩) ⟨216, 4, 216, 29⟩) b_L_taken_9
abbrev b_L_taken_11 : S := .scons (.ife (.cmp .gt (.ix (.var 0 "row" ⟨213, 7, 213, 10⟩) (.cst (.int 1) ⟨213, 11, 213, 12⟩) ⟨213, 7, 213, 13⟩) (.b1 .len (.ix (.var 0 "row" ⟨213, 20, 213, 23⟩) (.cst (.int 0) ⟨213, 24, 213, 25⟩) ⟨213, 20, 213, 26⟩) ⟨213, 16, 213, 19⟩ ⟨213, 16, 213, 27⟩) ⟨213, 7, 213, 27⟩) b_L_taken_5 .snil ⟨213, 4, 215, 38⟩) b_L_taken_10
abbrev b_L_taken_12 : S := .scons (.sub (.var 0 "row" ⟨212, 4, 212, 7⟩) (.cst (.int 1) ⟨212, 8, 212, 9⟩) ⟨212, 4, 212, 10⟩ (.bin .add (.ix (.var 0 "row" ⟨212, 13, 212, 16⟩) (.cst (.int 1) ⟨212, 17, 212, 18⟩) ⟨212, 13, 212, 19⟩) (.cst (.int 1) ⟨212, 22, 212, 23⟩) ⟨212, 13, 212, 23⟩) ⟨212, 4, 212, 23⟩) b_L_taken_11
abbrev b_L_taken_13 : S := .scons (.ife (.cmp .gt (.ix (.var 0 "row" ⟨208, 7, 208, 10⟩) (.cst (.int 3) ⟨208, 11, 208, 12⟩) ⟨208, 7, 208, 13⟩) (.cst (.int 0) ⟨208, 16, 208, 17⟩) ⟨208, 7, 208, 17⟩) b_L_taken_3 .snil ⟨208, 4, 211, 20⟩) b_L_taken_12
abbrev b_L_taken : S := b_L_taken_13
def f_L_taken : Fn := ⟨2, 4, b_L_taken⟩
/-- 28 -/
abbrev b_L_pick_1 : S := .scons (.ret (.ix (.var 1 "some" ⟨222, 11, 222, 15⟩) (.call 27 "_law_taken" ⟨222, 16, 222, 26⟩ (.acons (.var 0 "row" ⟨222, 27, 222, 30⟩) (.acons (.b1 .len (.var 1 "some" ⟨222, 36, 222, 40⟩) ⟨222, 32, 222, 35⟩ ⟨222, 32, 222, 41⟩) .anil)) ⟨222, 16, 222, 42⟩) ⟨222, 11, 222, 43⟩) ⟨222, 4, 222, 43⟩) .snil
abbrev b_L_pick : S := b_L_pick_1
def f_L_pick : Fn := ⟨2, 2, b_L_pick⟩
-- 29 L_refused: apart
/-- 30 -/
abbrev b_L_alike_1 : S := .scons (.ret (.cst (.bl false) ⟨232, 19, 232, 24⟩) ⟨232, 12, 232, 24⟩) .snil
abbrev b_L_alike_2 : S := .scons (.ret (.cmp .eq (.newl (.lc (.var 2 "at" ⟨233, 16, 233, 18⟩) (.one 2 "at" ⟨233, 23, 233, 25⟩) (.irng1 (.b1 .len (.var 1 "due" ⟨233, 39, 233, 42⟩) ⟨233, 35, 233, 38⟩ ⟨233, 35, 233, 43⟩) ⟨233, 29, 233, 34⟩ ⟨233, 29, 233, 44⟩) (.osome (.not (.call 30 "_law_alike" ⟨233, 52, 233, 62⟩ (.acons (.ix (.var 0 "found" ⟨233, 63, 233, 68⟩) (.var 2 "at" ⟨233, 69, 233, 71⟩) ⟨233, 63, 233, 72⟩) (.acons (.ix (.var 1 "due" ⟨233, 74, 233, 77⟩) (.var 2 "at" ⟨233, 78, 233, 80⟩) ⟨233, 74, 233, 81⟩) .anil)) ⟨233, 52, 233, 82⟩) ⟨233, 48, 233, 82⟩)) [("at", 2)] ⟨.function, [(".0", .local), ("at", .local), ("_law_alike", .globalImplicit), ("due", .free), ("found", .free)], false, false, []⟩ ⟨233, 15, 233, 83⟩)) (.newl (.ldisp .anil ⟨233, 87, 233, 89⟩)) ⟨233, 15, 233, 89⟩) ⟨233, 8, 233, 89⟩) .snil
abbrev b_L_alike_3 : S := .scons (.ife (.bo false (.not (.isi (.var 0 "found" ⟨231, 26, 231, 31⟩) .tup ⟨231, 15, 231, 25⟩ ⟨231, 33, 231, 38⟩ ⟨231, 15, 231, 39⟩) ⟨231, 11, 231, 39⟩) (.acons (.cmp .ne (.b1 .len (.var 0 "found" ⟨231, 47, 231, 52⟩) ⟨231, 43, 231, 46⟩ ⟨231, 43, 231, 53⟩) (.b1 .len (.var 1 "due" ⟨231, 61, 231, 64⟩) ⟨231, 57, 231, 60⟩ ⟨231, 57, 231, 65⟩) ⟨231, 43, 231, 65⟩) .anil) ⟨231, 11, 231, 65⟩) b_L_alike_1 .snil ⟨231, 8, 232, 24⟩) b_L_alike_2
abbrev b_L_alike_4 : S := .scons (.ret (.bo true (.cmp .eq (.var 0 "found" ⟨235, 15, 235, 20⟩) (.var 1 "due" ⟨235, 24, 235, 27⟩) ⟨235, 15, 235, 27⟩) (.acons (.cmp .eq (.isi (.var 0 "found" ⟨235, 43, 235, 48⟩) .str ⟨235, 32, 235, 42⟩ ⟨235, 50, 235, 53⟩ ⟨235, 32, 235, 54⟩) (.isi (.var 1 "due" ⟨235, 69, 235, 72⟩) .str ⟨235, 58, 235, 68⟩ ⟨235, 74, 235, 77⟩ ⟨235, 58, 235, 78⟩) ⟨235, 32, 235, 78⟩) .anil) ⟨235, 15, 235, 78⟩) ⟨235, 8, 235, 78⟩) .snil
abbrev b_L_alike_5 : S := .scons (.ret (.bo true (.isi (.var 0 "found" ⟨236, 22, 236, 27⟩) .int ⟨236, 11, 236, 21⟩ ⟨236, 29, 236, 32⟩ ⟨236, 11, 236, 33⟩) (.acons (.cmp .eq (.isi (.var 0 "found" ⟨236, 49, 236, 54⟩) .bool ⟨236, 38, 236, 48⟩ ⟨236, 56, 236, 60⟩ ⟨236, 38, 236, 61⟩) (.isi (.var 1 "due" ⟨236, 76, 236, 79⟩) .bool ⟨236, 65, 236, 75⟩ ⟨236, 81, 236, 85⟩ ⟨236, 65, 236, 86⟩) ⟨236, 38, 236, 86⟩) (.acons (.cmp .eq (.var 0 "found" ⟨236, 92, 236, 97⟩) (.var 1 "due" ⟨236, 101, 236, 104⟩) ⟨236, 92, 236, 104⟩) .anil)) ⟨236, 11, 236, 105⟩) ⟨236, 4, 236, 105⟩) .snil
abbrev b_L_alike_6 : S := .scons (.ife (.bo false (.cmp .is (.var 1 "due" ⟨234, 7, 234, 10⟩) (.cst .non ⟨234, 14, 234, 18⟩) ⟨234, 7, 234, 18⟩) (.acons (.isi (.var 1 "due" ⟨234, 33, 234, 36⟩) .str ⟨234, 22, 234, 32⟩ ⟨234, 38, 234, 41⟩ ⟨234, 22, 234, 42⟩) .anil) ⟨234, 7, 234, 42⟩) b_L_alike_4 .snil ⟨234, 4, 235, 78⟩) b_L_alike_5
abbrev b_L_alike_7 : S := .scons (.ife (.isi (.var 1 "due" ⟨230, 18, 230, 21⟩) .tup ⟨230, 7, 230, 17⟩ ⟨230, 23, 230, 28⟩ ⟨230, 7, 230, 29⟩) b_L_alike_3 .snil ⟨230, 4, 233, 89⟩) b_L_alike_6
abbrev b_L_alike : S := b_L_alike_7
def f_L_alike : Fn := ⟨2, 3, b_L_alike⟩
/-- 31 -/
abbrev b_L_ask_1 : S := .scons (.ret (.tup (.acons (.call 28 "_law_pick" ⟨239, 16, 239, 25⟩ (.acons (.var 0 "row" ⟨239, 26, 239, 29⟩) (.acons (.var 1 "facts" ⟨239, 31, 239, 36⟩) .anil)) ⟨239, 16, 239, 37⟩) (.acons (.tup .anil ⟨239, 39, 239, 41⟩) (.acons (.tup .anil ⟨239, 43, 239, 45⟩) .anil))) ⟨239, 15, 239, 46⟩) ⟨239, 8, 239, 46⟩) .snil
abbrev b_L_ask_2 : S := .scons (.ret (.tup (.acons (.var 3 "sign" ⟨242, 12, 242, 16⟩) (.acons (.var 4 "one" ⟨242, 18, 242, 21⟩) (.acons (.ife (.cmp .inn (.var 3 "sign" ⟨242, 57, 242, 61⟩) (.tup (.acons (.cst (.str [69, 85]) ⟨242, 66, 242, 70⟩) (.acons (.cst (.str [65, 85]) ⟨242, 72, 242, 76⟩) (.acons (.cst (.str [38]) ⟨242, 78, 242, 81⟩) (.acons (.cst (.str [124]) ⟨242, 83, 242, 86⟩) .anil)))) ⟨242, 65, 242, 87⟩) ⟨242, 57, 242, 87⟩) (.call 31 "_law_ask" ⟨242, 23, 242, 31⟩ (.acons (.var 0 "row" ⟨242, 32, 242, 35⟩) (.acons (.var 1 "facts" ⟨242, 37, 242, 42⟩) (.acons (.bin .sub (.var 2 "deep" ⟨242, 44, 242, 48⟩) (.cst (.int 1) ⟨242, 51, 242, 52⟩) ⟨242, 44, 242, 52⟩) .anil))) ⟨242, 23, 242, 53⟩) (.tup .anil ⟨242, 93, 242, 95⟩) ⟨242, 23, 242, 95⟩) .anil))) ⟨242, 11, 242, 96⟩) ⟨242, 4, 242, 96⟩) .snil
abbrev b_L_ask_3 : S := .scons (.set 4 "one" ⟨241, 4, 241, 7⟩ (.call 31 "_law_ask" ⟨241, 10, 241, 18⟩ (.acons (.var 0 "row" ⟨241, 19, 241, 22⟩) (.acons (.var 1 "facts" ⟨241, 24, 241, 29⟩) (.acons (.bin .sub (.var 2 "deep" ⟨241, 31, 241, 35⟩) (.cst (.int 1) ⟨241, 38, 241, 39⟩) ⟨241, 31, 241, 39⟩) .anil))) ⟨241, 10, 241, 40⟩) ⟨241, 4, 241, 40⟩) b_L_ask_2
abbrev b_L_ask_4 : S := .scons (.set 3 "sign" ⟨240, 4, 240, 8⟩ (.call 28 "_law_pick" ⟨240, 11, 240, 20⟩ (.acons (.var 0 "row" ⟨240, 21, 240, 24⟩) (.acons (.newl (.ldisp (.acons (.cst (.str [126]) ⟨240, 27, 240, 30⟩) (.acons (.cst (.str [69, 78]) ⟨240, 32, 240, 36⟩) (.acons (.cst (.str [65, 78]) ⟨240, 38, 240, 42⟩) (.acons (.cst (.str [69, 70]) ⟨240, 44, 240, 48⟩) (.acons (.cst (.str [65, 70]) ⟨240, 50, 240, 54⟩) (.acons (.cst (.str [69, 71]) ⟨240, 56, 240, 60⟩) (.acons (.cst (.str [65, 71]) ⟨240, 62, 240, 66⟩) (.acons (.cst (.str [69, 85]) ⟨240, 68, 240, 72⟩) (.acons (.cst (.str [65, 85]) ⟨240, 74, 240, 78⟩) (.acons (.cst (.str [38]) ⟨240, 80, 240, 83⟩) (.acons (.cst (.str [124]) ⟨240, 85, 240, 88⟩) .anil))))))))))) ⟨240, 26, 240, 89⟩)) .anil)) ⟨240, 11, 240, 90⟩) ⟨240, 4, 240, 90⟩) b_L_ask_3
abbrev b_L_ask_5 : S := .scons (.ife (.bo false (.cmp .eq (.var 2 "deep" ⟨238, 7, 238, 11⟩) (.cst (.int 0) ⟨238, 15, 238, 16⟩) ⟨238, 7, 238, 16⟩) (.acons (.cmp .eq (.call 27 "_law_taken" ⟨238, 20, 238, 30⟩ (.acons (.var 0 "row" ⟨238, 31, 238, 34⟩) (.acons (.cst (.int 5) ⟨238, 36, 238, 37⟩) .anil)) ⟨238, 20, 238, 38⟩) (.cst (.int 0) ⟨238, 42, 238, 43⟩) ⟨238, 20, 238, 43⟩) .anil) ⟨238, 7, 238, 43⟩) b_L_ask_1 .snil ⟨238, 4, 239, 46⟩) b_L_ask_4
abbrev b_L_ask : S := b_L_ask_5
def f_L_ask : Fn := ⟨3, 5, b_L_ask⟩
/-- 32 -/
abbrev b_L_asked_1 : S := .scons (.ret (.ife (.cmp .eq (.var 3 "one" ⟨246, 23, 246, 26⟩) (.tup .anil ⟨246, 30, 246, 32⟩) ⟨246, 23, 246, 32⟩) (.var 2 "sign" ⟨246, 15, 246, 19⟩) (.bin .add (.var 2 "sign" ⟨246, 38, 246, 42⟩) (.call 32 "_law_asked" ⟨246, 45, 246, 55⟩ (.acons (.var 3 "one" ⟨246, 56, 246, 59⟩) (.acons (.cst (.int 2) ⟨246, 61, 246, 62⟩) .anil)) ⟨246, 45, 246, 63⟩) ⟨246, 38, 246, 63⟩) ⟨246, 15, 246, 63⟩) ⟨246, 8, 246, 63⟩) .snil
abbrev b_L_asked_2 : S := .scons (.ret (.bin .add (.bin .add (.bin .add (.bin .add (.bin .add (.ix (.var 2 "sign" ⟨248, 15, 248, 19⟩) (.cst (.int 0) ⟨248, 20, 248, 21⟩) ⟨248, 15, 248, 22⟩) (.cst (.str [40]) ⟨248, 25, 248, 28⟩) ⟨248, 15, 248, 28⟩) (.call 32 "_law_asked" ⟨248, 31, 248, 41⟩ (.acons (.var 3 "one" ⟨248, 42, 248, 45⟩) (.acons (.cst (.int 0) ⟨248, 47, 248, 48⟩) .anil)) ⟨248, 31, 248, 49⟩) ⟨248, 15, 248, 49⟩) (.cst (.str [85]) ⟨248, 52, 248, 55⟩) ⟨248, 15, 248, 55⟩) (.call 32 "_law_asked" ⟨248, 58, 248, 68⟩ (.acons (.var 4 "other" ⟨248, 69, 248, 74⟩) (.acons (.cst (.int 0) ⟨248, 76, 248, 77⟩) .anil)) ⟨248, 58, 248, 78⟩) ⟨248, 15, 248, 78⟩) (.cst (.str [41]) ⟨248, 81, 248, 84⟩) ⟨248, 15, 248, 84⟩) ⟨248, 8, 248, 84⟩) .snil
abbrev b_L_asked_3 : S := .scons (.ret (.ife (.cmp .lt (.var 5 "own" ⟨251, 32, 251, 35⟩) (.var 1 "level" ⟨251, 38, 251, 43⟩) ⟨251, 32, 251, 43⟩) (.bin .add (.bin .add (.cst (.str [40]) ⟨251, 11, 251, 14⟩) (.var 6 "found" ⟨251, 17, 251, 22⟩) ⟨251, 11, 251, 22⟩) (.cst (.str [41]) ⟨251, 25, 251, 28⟩) ⟨251, 11, 251, 28⟩) (.var 6 "found" ⟨251, 49, 251, 54⟩) ⟨251, 11, 251, 54⟩) ⟨251, 4, 251, 54⟩) .snil
abbrev b_L_asked_4 : S := .scons (.set 6 "found" ⟨250, 4, 250, 9⟩ (.bin .add (.bin .add (.call 32 "_law_asked" ⟨250, 12, 250, 22⟩ (.acons (.var 3 "one" ⟨250, 23, 250, 26⟩) (.acons (.var 5 "own" ⟨250, 28, 250, 31⟩) .anil)) ⟨250, 12, 250, 32⟩) (.var 2 "sign" ⟨250, 35, 250, 39⟩) ⟨250, 12, 250, 39⟩) (.call 32 "_law_asked" ⟨250, 42, 250, 52⟩ (.acons (.var 4 "other" ⟨250, 53, 250, 58⟩) (.acons (.bin .add (.var 5 "own" ⟨250, 60, 250, 63⟩) (.cst (.int 1) ⟨250, 66, 250, 67⟩) ⟨250, 60, 250, 67⟩) .anil)) ⟨250, 42, 250, 68⟩) ⟨250, 12, 250, 68⟩) ⟨250, 4, 250, 68⟩) b_L_asked_3
abbrev b_L_asked_5 : S := .scons (.set 5 "own" ⟨249, 4, 249, 7⟩ (.ife (.cmp .eq (.var 2 "sign" ⟨249, 15, 249, 19⟩) (.cst (.str [124]) ⟨249, 23, 249, 26⟩) ⟨249, 15, 249, 26⟩) (.cst (.int 0) ⟨249, 10, 249, 11⟩) (.cst (.int 1) ⟨249, 32, 249, 33⟩) ⟨249, 10, 249, 33⟩) ⟨249, 4, 249, 33⟩) b_L_asked_4
abbrev b_L_asked_6 : S := .scons (.ife (.cmp .inn (.var 2 "sign" ⟨247, 7, 247, 11⟩) (.tup (.acons (.cst (.str [69, 85]) ⟨247, 16, 247, 20⟩) (.acons (.cst (.str [65, 85]) ⟨247, 22, 247, 26⟩) .anil)) ⟨247, 15, 247, 27⟩) ⟨247, 7, 247, 27⟩) b_L_asked_2 .snil ⟨247, 4, 248, 84⟩) b_L_asked_5
abbrev b_L_asked_7 : S := .scons (.ife (.cmp .eq (.var 4 "other" ⟨245, 7, 245, 12⟩) (.tup .anil ⟨245, 16, 245, 18⟩) ⟨245, 7, 245, 18⟩) b_L_asked_1 .snil ⟨245, 4, 246, 63⟩) b_L_asked_6
abbrev b_L_asked_8 : S := .scons (.unp (.many [(2, "sign", ⟨244, 4, 244, 8⟩), (3, "one", ⟨244, 10, 244, 13⟩), (4, "other", ⟨244, 15, 244, 20⟩)] ⟨244, 4, 244, 20⟩) (.var 0 "tree" ⟨244, 23, 244, 27⟩) ⟨244, 4, 244, 27⟩) b_L_asked_7
abbrev b_L_asked : S := b_L_asked_8
def f_L_asked : Fn := ⟨2, 7, b_L_asked⟩
/-- 33 -/
abbrev b_L_blank_1 : S := .scons (.ret (.bin .mul (.cst (.str [32]) ⟨253, 11, 253, 14⟩) (.call 28 "_law_pick" ⟨253, 17, 253, 26⟩ (.acons (.var 0 "row" ⟨253, 27, 253, 30⟩) (.acons (.newl (.ldisp (.acons (.cst (.int 0) ⟨253, 33, 253, 34⟩) (.acons (.cst (.int 0) ⟨253, 36, 253, 37⟩) (.acons (.cst (.int 0) ⟨253, 39, 253, 40⟩) (.acons (.cst (.int 1) ⟨253, 42, 253, 43⟩) (.acons (.cst (.int 2) ⟨253, 45, 253, 46⟩) .anil))))) ⟨253, 32, 253, 47⟩)) .anil)) ⟨253, 17, 253, 48⟩) ⟨253, 11, 253, 48⟩) ⟨253, 4, 253, 48⟩) .snil
abbrev b_L_blank : S := b_L_blank_1
def f_L_blank : Fn := ⟨1, 1, b_L_blank⟩
/-- 34 -/
abbrev b_L_text_1 : S := .scons (.par [(7, "own", ⟨258, 8, 258, 11⟩), (8, "found", ⟨258, 13, 258, 18⟩)] ⟨258, 8, 258, 18⟩ (.acons (.cst (.int 3) ⟨258, 22, 258, 23⟩) (.acons (.join (.var 6 "gap" ⟨258, 25, 258, 28⟩) (.llist (.var 3 "sign" ⟨258, 39, 258, 43⟩) ⟨258, 34, 258, 38⟩ ⟨258, 34, 258, 44⟩) ⟨258, 25, 258, 33⟩ ⟨258, 25, 258, 45⟩) .anil)) ⟨258, 21, 258, 46⟩ ⟨258, 8, 258, 46⟩) .snil
abbrev b_L_text_2 : S := .scons (.par [(7, "own", ⟨260, 8, 260, 11⟩), (8, "found", ⟨260, 13, 260, 18⟩)] ⟨260, 8, 260, 18⟩ (.acons (.cst (.int 2) ⟨260, 22, 260, 23⟩) (.acons (.bin .add (.bin .add (.join (.var 6 "gap" ⟨260, 25, 260, 28⟩) (.llist (.var 3 "sign" ⟨260, 39, 260, 43⟩) ⟨260, 34, 260, 38⟩ ⟨260, 34, 260, 44⟩) ⟨260, 25, 260, 33⟩ ⟨260, 25, 260, 45⟩) (.var 6 "gap" ⟨260, 48, 260, 51⟩) ⟨260, 25, 260, 51⟩) (.call 34 "_law_text" ⟨260, 54, 260, 63⟩ (.acons (.var 0 "row" ⟨260, 64, 260, 67⟩) (.acons (.var 4 "one" ⟨260, 69, 260, 72⟩) (.acons (.cst (.int 2) ⟨260, 74, 260, 75⟩) .anil))) ⟨260, 54, 260, 76⟩) ⟨260, 25, 260, 76⟩) .anil)) ⟨260, 21, 260, 77⟩ ⟨260, 8, 260, 77⟩) .snil
abbrev b_L_text_3 : S := .scons (.par [(7, "own", ⟨262, 8, 262, 11⟩), (8, "found", ⟨262, 13, 262, 18⟩)] ⟨262, 8, 262, 18⟩ (.acons (.cst (.int 3) ⟨262, 22, 262, 23⟩) (.acons (.bin .add (.bin .add (.bin .add (.bin .add (.bin .add (.bin .add (.bin .add (.bin .add (.ix (.var 3 "sign" ⟨262, 25, 262, 29⟩) (.cst (.int 0) ⟨262, 30, 262, 31⟩) ⟨262, 25, 262, 32⟩) (.var 6 "gap" ⟨262, 35, 262, 38⟩) ⟨262, 25, 262, 38⟩) (.cst (.str [40]) ⟨262, 41, 262, 44⟩) ⟨262, 25, 262, 44⟩) (.call 34 "_law_text" ⟨262, 47, 262, 56⟩ (.acons (.var 0 "row" ⟨262, 57, 262, 60⟩) (.acons (.var 4 "one" ⟨262, 62, 262, 65⟩) (.acons (.cst (.int 0) ⟨262, 67, 262, 68⟩) .anil))) ⟨262, 47, 262, 69⟩) ⟨262, 25, 262, 69⟩) (.var 6 "gap" ⟨262, 72, 262, 75⟩) ⟨262, 25, 262, 75⟩) (.cst (.str [85]) ⟨262, 78, 262, 81⟩) ⟨262, 25, 262, 81⟩) (.var 6 "gap" ⟨262, 84, 262, 87⟩) ⟨262, 25, 262, 87⟩) (.call 34 "_law_text" ⟨262, 90, 262, 99⟩ (.acons (.var 0 "row" ⟨262, 100, 262, 103⟩) (.acons (.var 5 "other" ⟨262, 105, 262, 110⟩) (.acons (.cst (.int 0) ⟨262, 112, 262, 113⟩) .anil))) ⟨262, 90, 262, 114⟩) ⟨262, 25, 262, 114⟩) (.cst (.str [41]) ⟨262, 117, 262, 120⟩) ⟨262, 25, 262, 120⟩) .anil)) ⟨262, 21, 262, 121⟩ ⟨262, 8, 262, 121⟩) .snil
abbrev b_L_text_4 : S := .scons (.set 8 "found" ⟨265, 8, 265, 13⟩ (.bin .add (.bin .add (.bin .add (.call 34 "_law_text" ⟨265, 16, 265, 25⟩ (.acons (.var 0 "row" ⟨265, 26, 265, 29⟩) (.acons (.var 4 "one" ⟨265, 31, 265, 34⟩) (.acons (.var 7 "own" ⟨265, 36, 265, 39⟩) .anil))) ⟨265, 16, 265, 40⟩) (.var 6 "gap" ⟨265, 43, 265, 46⟩) ⟨265, 16, 265, 46⟩) (.var 3 "sign" ⟨265, 49, 265, 53⟩) ⟨265, 16, 265, 53⟩) (.call 34 "_law_text" ⟨265, 56, 265, 65⟩ (.acons (.var 0 "row" ⟨265, 66, 265, 69⟩) (.acons (.var 5 "other" ⟨265, 71, 265, 76⟩) (.acons (.bin .add (.var 7 "own" ⟨265, 78, 265, 81⟩) (.cst (.int 1) ⟨265, 84, 265, 85⟩) ⟨265, 78, 265, 85⟩) .anil))) ⟨265, 56, 265, 86⟩) ⟨265, 16, 265, 86⟩) ⟨265, 8, 265, 86⟩) .snil
abbrev b_L_text_5 : S := .scons (.set 7 "own" ⟨264, 8, 264, 11⟩ (.ife (.cmp .eq (.var 3 "sign" ⟨264, 19, 264, 23⟩) (.cst (.str [124]) ⟨264, 27, 264, 30⟩) ⟨264, 19, 264, 30⟩) (.cst (.int 0) ⟨264, 14, 264, 15⟩) (.cst (.int 1) ⟨264, 36, 264, 37⟩) ⟨264, 14, 264, 37⟩) ⟨264, 8, 264, 37⟩) b_L_text_4
abbrev b_L_text_6 : S := .scons (.ife (.cmp .inn (.var 3 "sign" ⟨261, 9, 261, 13⟩) (.tup (.acons (.cst (.str [69, 85]) ⟨261, 18, 261, 22⟩) (.acons (.cst (.str [65, 85]) ⟨261, 24, 261, 28⟩) .anil)) ⟨261, 17, 261, 29⟩) ⟨261, 9, 261, 29⟩) b_L_text_3 b_L_text_5 ⟨261, 4, 265, 86⟩) .snil
abbrev b_L_text_7 : S := .scons (.ife (.cmp .eq (.var 5 "other" ⟨259, 9, 259, 14⟩) (.tup .anil ⟨259, 18, 259, 20⟩) ⟨259, 9, 259, 20⟩) b_L_text_2 b_L_text_6 ⟨259, 4, 265, 86⟩) .snil
abbrev b_L_text_8 : S := .scons (.ret (.ife (.bo false (.cmp .lt (.var 7 "own" ⟨266, 38, 266, 41⟩) (.var 2 "level" ⟨266, 44, 266, 49⟩) ⟨266, 38, 266, 49⟩) (.acons (.cmp .eq (.call 27 "_law_taken" ⟨266, 53, 266, 63⟩ (.acons (.var 0 "row" ⟨266, 64, 266, 67⟩) (.acons (.cst (.int 5) ⟨266, 69, 266, 70⟩) .anil)) ⟨266, 53, 266, 71⟩) (.cst (.int 0) ⟨266, 75, 266, 76⟩) ⟨266, 53, 266, 76⟩) .anil) ⟨266, 38, 266, 76⟩) (.bin .add (.bin .add (.bin .add (.cst (.str [40]) ⟨266, 11, 266, 14⟩) (.var 6 "gap" ⟨266, 17, 266, 20⟩) ⟨266, 11, 266, 20⟩) (.var 8 "found" ⟨266, 23, 266, 28⟩) ⟨266, 11, 266, 28⟩) (.cst (.str [41]) ⟨266, 31, 266, 34⟩) ⟨266, 11, 266, 34⟩) (.bin .add (.var 8 "found" ⟨266, 82, 266, 87⟩) (.var 6 "gap" ⟨266, 90, 266, 93⟩) ⟨266, 82, 266, 93⟩) ⟨266, 11, 266, 93⟩) ⟨266, 4, 266, 93⟩) .snil
abbrev b_L_text_9 : S := .scons (.ife (.cmp .eq (.var 4 "one" ⟨257, 7, 257, 10⟩) (.tup .anil ⟨257, 14, 257, 16⟩) ⟨257, 7, 257, 16⟩) b_L_text_1 b_L_text_7 ⟨257, 4, 265, 86⟩) b_L_text_8
abbrev b_L_text_10 : S := .scons (.set 6 "gap" ⟨256, 4, 256, 7⟩ (.call 33 "_law_blank" ⟨256, 10, 256, 20⟩ (.acons (.var 0 "row" ⟨256, 21, 256, 24⟩) .anil) ⟨256, 10, 256, 25⟩) ⟨256, 4, 256, 25⟩) b_L_text_9
abbrev b_L_text_11 : S := .scons (.unp (.many [(3, "sign", ⟨255, 4, 255, 8⟩), (4, "one", ⟨255, 10, 255, 13⟩), (5, "other", ⟨255, 15, 255, 20⟩)] ⟨255, 4, 255, 20⟩) (.var 1 "tree" ⟨255, 23, 255, 27⟩) ⟨255, 4, 255, 27⟩) b_L_text_10
abbrev b_L_text : S := b_L_text_11
def f_L_text : Fn := ⟨3, 9, b_L_text⟩
/-- 35 -/
abbrev b_L_behind_1 : S := .scons (.ret (.cst (.str [97, 115, 107]) ⟨269, 15, 269, 20⟩) ⟨269, 8, 269, 20⟩) .snil
abbrev b_L_behind_2 : S := .scons (.ret (.ife (.cmp .eq (.var 0 "own" ⟨271, 27, 271, 30⟩) (.cst (.str []) ⟨271, 34, 271, 36⟩) ⟨271, 27, 271, 36⟩) (.cst (.str [98, 101, 104, 105, 110, 100]) ⟨271, 15, 271, 23⟩) (.tup (.acons (.var 1 "at" ⟨271, 43, 271, 45⟩) (.acons (.cst (.str [101, 120, 112, 101, 99, 116, 101, 100, 32, 116, 104, 101, 32, 101, 110, 100]) ⟨271, 47, 271, 65⟩) .anil)) ⟨271, 42, 271, 66⟩) ⟨271, 15, 271, 66⟩) ⟨271, 8, 271, 66⟩) .snil
abbrev b_L_behind_3 : S := .scons (.ret (.ife (.cmp .eq (.var 0 "own" ⟨273, 24, 273, 27⟩) (.cst (.str [85]) ⟨273, 31, 273, 34⟩) ⟨273, 24, 273, 34⟩) (.cst (.str [97, 115, 107]) ⟨273, 15, 273, 20⟩) (.tup (.acons (.var 1 "at" ⟨273, 41, 273, 43⟩) (.acons (.cst (.str [101, 120, 112, 101, 99, 116, 101, 100, 32, 85]) ⟨273, 45, 273, 57⟩) .anil)) ⟨273, 40, 273, 58⟩) ⟨273, 15, 273, 58⟩) ⟨273, 8, 273, 58⟩) .snil
abbrev b_L_behind_4 : S := .scons (.ret (.ife (.cmp .eq (.var 0 "own" ⟨274, 23, 274, 26⟩) (.cst (.str [41]) ⟨274, 30, 274, 33⟩) ⟨274, 23, 274, 33⟩) (.cst (.str [98, 101, 104, 105, 110, 100]) ⟨274, 11, 274, 19⟩) (.tup (.acons (.var 1 "at" ⟨274, 40, 274, 42⟩) (.acons (.cst (.str [101, 120, 112, 101, 99, 116, 101, 100, 32, 41]) ⟨274, 44, 274, 56⟩) .anil)) ⟨274, 39, 274, 57⟩) ⟨274, 11, 274, 57⟩) ⟨274, 4, 274, 57⟩) .snil
abbrev b_L_behind_5 : S := .scons (.ife (.cmp .eq (.ix (.var 2 "groups" ⟨272, 7, 272, 13⟩) (.neg (.cst (.int 1) ⟨272, 15, 272, 16⟩) ⟨272, 14, 272, 16⟩) ⟨272, 7, 272, 17⟩) (.cst (.str [85]) ⟨272, 21, 272, 24⟩) ⟨272, 7, 272, 24⟩) b_L_behind_3 .snil ⟨272, 4, 273, 58⟩) b_L_behind_4
abbrev b_L_behind_6 : S := .scons (.ife (.cmp .eq (.var 2 "groups" ⟨270, 7, 270, 13⟩) (.newl (.ldisp .anil ⟨270, 17, 270, 19⟩)) ⟨270, 7, 270, 19⟩) b_L_behind_2 .snil ⟨270, 4, 271, 66⟩) b_L_behind_5
abbrev b_L_behind_7 : S := .scons (.ife (.cmp .inn (.var 0 "own" ⟨268, 7, 268, 10⟩) (.tup (.acons (.cst (.str [38]) ⟨268, 15, 268, 18⟩) (.acons (.cst (.str [124]) ⟨268, 20, 268, 23⟩) .anil)) ⟨268, 14, 268, 24⟩) ⟨268, 7, 268, 24⟩) b_L_behind_1 .snil ⟨268, 4, 269, 20⟩) b_L_behind_6
abbrev b_L_behind : S := b_L_behind_7
def f_L_behind : Fn := ⟨3, 3, b_L_behind⟩
/-- 36 -/
abbrev b_L_ground_1 : S := .scons (.ret (.ife (.cmp .eq (.b1 .len (.var 2 "groups" ⟨277, 47, 277, 53⟩) ⟨277, 43, 277, 46⟩ ⟨277, 43, 277, 54⟩) (.cst (.int 20) ⟨277, 58, 277, 60⟩) ⟨277, 43, 277, 60⟩) (.tup (.acons (.var 1 "at" ⟨277, 16, 277, 18⟩) (.acons (.cst (.str [116, 104, 105, 115, 32, 105, 115, 32, 116, 111, 111, 32, 100, 101, 101, 112]) ⟨277, 20, 277, 38⟩) .anil)) ⟨277, 15, 277, 39⟩) (.cst (.str [97, 115, 107]) ⟨277, 66, 277, 71⟩) ⟨277, 15, 277, 71⟩) ⟨277, 8, 277, 71⟩) .snil
abbrev b_L_ground_2 : S := .scons (.ret (.cst (.str [115, 116, 101, 112]) ⟨279, 15, 279, 21⟩) ⟨279, 8, 279, 21⟩) .snil
abbrev b_L_ground_3 : S := .scons (.ret (.cst (.str [97, 115, 107]) ⟨281, 15, 281, 20⟩) ⟨281, 8, 281, 20⟩) .snil
abbrev b_L_ground_4 : S := .scons (.ret (.cst (.str [115, 105, 103, 110]) ⟨283, 15, 283, 21⟩) ⟨283, 8, 283, 21⟩) .snil
abbrev b_L_ground_5 : S := .scons (.ret (.tup (.acons (.var 1 "at" ⟨284, 12, 284, 14⟩) (.acons (.cst (.str [101, 120, 112, 101, 99, 116, 101, 100, 32, 97, 32, 113, 117, 101, 115, 116, 105, 111, 110]) ⟨284, 16, 284, 37⟩) .anil)) ⟨284, 11, 284, 38⟩) ⟨284, 4, 284, 38⟩) .snil
abbrev b_L_ground_6 : S := .scons (.ife (.bo true (.cmp .ne (.var 0 "own" ⟨282, 7, 282, 10⟩) (.cst (.str []) ⟨282, 14, 282, 16⟩) ⟨282, 7, 282, 16⟩) (.acons (.cmp .inn (.var 0 "own" ⟨282, 21, 282, 24⟩) (.cst (.str [97, 98, 99, 100, 101, 102, 103, 104, 105, 106, 88, 89, 90]) ⟨282, 28, 282, 43⟩) ⟨282, 21, 282, 43⟩) .anil) ⟨282, 7, 282, 43⟩) b_L_ground_4 .snil ⟨282, 4, 283, 21⟩) b_L_ground_5
abbrev b_L_ground_7 : S := .scons (.ife (.cmp .eq (.var 0 "own" ⟨280, 7, 280, 10⟩) (.cst (.str [126]) ⟨280, 14, 280, 17⟩) ⟨280, 7, 280, 17⟩) b_L_ground_3 .snil ⟨280, 4, 281, 20⟩) b_L_ground_6
abbrev b_L_ground_8 : S := .scons (.ife (.cmp .inn (.var 0 "own" ⟨278, 7, 278, 10⟩) (.tup (.acons (.cst (.str [69]) ⟨278, 15, 278, 18⟩) (.acons (.cst (.str [65]) ⟨278, 20, 278, 23⟩) .anil)) ⟨278, 14, 278, 24⟩) ⟨278, 7, 278, 24⟩) b_L_ground_2 .snil ⟨278, 4, 279, 21⟩) b_L_ground_7
abbrev b_L_ground_9 : S := .scons (.ife (.cmp .eq (.var 0 "own" ⟨276, 7, 276, 10⟩) (.cst (.str [40]) ⟨276, 14, 276, 17⟩) ⟨276, 7, 276, 17⟩) b_L_ground_1 .snil ⟨276, 4, 277, 71⟩) b_L_ground_8
abbrev b_L_ground : S := b_L_ground_9
def f_L_ground : Fn := ⟨3, 3, b_L_ground⟩
/-- 37 -/
abbrev b_L_flaw_1 : S := .scons (.ret (.tup (.acons (.var 1 "at" ⟨289, 20, 289, 22⟩) (.acons (.cst (.str [116, 104, 105, 115, 32, 115, 105, 103, 110, 32, 99, 97, 110, 110, 111, 116, 32, 115, 116, 97, 110, 100, 32, 104, 101, 114, 101]) ⟨289, 24, 289, 53⟩) .anil)) ⟨289, 19, 289, 54⟩) ⟨289, 12, 289, 54⟩) .snil
abbrev b_L_flaw_2 : S := .scons (.ife (.cmp .nin (.var 2 "own" ⟨288, 11, 288, 14⟩) (.cst (.str [97, 98, 99, 100, 101, 102, 103, 104, 105, 106, 88, 89, 90, 48, 49, 50, 51, 64, 61, 126, 38, 124, 40, 41, 69, 65, 78, 70, 71, 85]) ⟨288, 22, 288, 54⟩) ⟨288, 11, 288, 54⟩) b_L_flaw_1 .snil ⟨288, 8, 289, 54⟩) .snil
abbrev b_L_flaw_3 : S := .scons (.ret (.tup (.acons (.var 1 "at" ⟨294, 24, 294, 26⟩) (.acons (.cst (.str [116, 104, 105, 115, 32, 105, 115, 32, 116, 111, 111, 32, 100, 101, 101, 112]) ⟨294, 28, 294, 46⟩) .anil)) ⟨294, 23, 294, 47⟩) ⟨294, 16, 294, 47⟩) .snil
abbrev b_L_flaw_4 : S := .scons (.cnt ⟨296, 12, 296, 20⟩) .snil
abbrev b_L_flaw_5 : S := .scons (.par [(4, "state", ⟨295, 12, 295, 17⟩), (5, "groups", ⟨295, 19, 295, 25⟩)] ⟨295, 12, 295, 25⟩ (.acons (.cst (.str [97, 115, 107]) ⟨295, 29, 295, 34⟩) (.acons (.bin .add (.var 5 "groups" ⟨295, 36, 295, 42⟩) (.newl (.ldisp (.acons (.cst (.str [85]) ⟨295, 46, 295, 49⟩) .anil) ⟨295, 45, 295, 50⟩)) ⟨295, 36, 295, 50⟩) .anil)) ⟨295, 28, 295, 51⟩ ⟨295, 12, 295, 51⟩) b_L_flaw_4
abbrev b_L_flaw_6 : S := .scons (.ife (.cmp .eq (.b1 .len (.var 5 "groups" ⟨293, 19, 293, 25⟩) ⟨293, 15, 293, 18⟩ ⟨293, 15, 293, 26⟩) (.cst (.int 20) ⟨293, 30, 293, 32⟩) ⟨293, 15, 293, 32⟩) b_L_flaw_3 .snil ⟨293, 12, 294, 47⟩) b_L_flaw_5
abbrev b_L_flaw_7 : S := .scons (.ret (.var 6 "new" ⟨300, 23, 300, 26⟩) ⟨300, 16, 300, 26⟩) .snil
abbrev b_L_flaw_8 : S := .scons (.set 5 "groups" ⟨302, 16, 302, 22⟩ (.bin .add (.var 5 "groups" ⟨302, 25, 302, 31⟩) (.newl (.ldisp (.acons (.cst (.str [41]) ⟨302, 35, 302, 38⟩) .anil) ⟨302, 34, 302, 39⟩)) ⟨302, 25, 302, 39⟩) ⟨302, 16, 302, 39⟩) .snil
abbrev b_L_flaw_9 : S := .scons (.set 5 "groups" ⟨304, 16, 304, 22⟩ (.bin .add (.slc (.var 5 "groups" ⟨304, 25, 304, 31⟩) .onone (.osome (.neg (.cst (.int 1) ⟨304, 34, 304, 35⟩) ⟨304, 33, 304, 35⟩)) ⟨304, 32, 304, 35⟩ ⟨304, 25, 304, 36⟩) (.newl (.ldisp (.acons (.cst (.str [41]) ⟨304, 40, 304, 43⟩) .anil) ⟨304, 39, 304, 44⟩)) ⟨304, 25, 304, 44⟩) ⟨304, 16, 304, 44⟩) .snil
abbrev b_L_flaw_10 : S := .scons (.set 5 "groups" ⟨306, 16, 306, 22⟩ (.slc (.var 5 "groups" ⟨306, 25, 306, 31⟩) .onone (.osome (.neg (.cst (.int 1) ⟨306, 34, 306, 35⟩) ⟨306, 33, 306, 35⟩)) ⟨306, 32, 306, 35⟩ ⟨306, 25, 306, 36⟩) ⟨306, 16, 306, 36⟩) .snil
abbrev b_L_flaw_11 : S := .scons (.ife (.cmp .eq (.var 2 "own" ⟨305, 17, 305, 20⟩) (.cst (.str [41]) ⟨305, 24, 305, 27⟩) ⟨305, 17, 305, 27⟩) b_L_flaw_10 .snil ⟨305, 12, 306, 36⟩) .snil
abbrev b_L_flaw_12 : S := .scons (.ife (.bo true (.cmp .eq (.var 4 "state" ⟨303, 17, 303, 22⟩) (.cst (.str [98, 101, 104, 105, 110, 100]) ⟨303, 26, 303, 34⟩) ⟨303, 17, 303, 34⟩) (.acons (.cmp .eq (.var 2 "own" ⟨303, 39, 303, 42⟩) (.cst (.str [85]) ⟨303, 46, 303, 49⟩) ⟨303, 39, 303, 49⟩) .anil) ⟨303, 17, 303, 49⟩) b_L_flaw_9 b_L_flaw_11 ⟨303, 12, 306, 36⟩) .snil
abbrev b_L_flaw_13 : S := .scons (.set 4 "state" ⟨307, 12, 307, 17⟩ (.var 6 "new" ⟨307, 20, 307, 23⟩) ⟨307, 12, 307, 23⟩) .snil
abbrev b_L_flaw_14 : S := .scons (.ife (.bo true (.cmp .eq (.var 4 "state" ⟨301, 15, 301, 20⟩) (.cst (.str [97, 115, 107]) ⟨301, 24, 301, 29⟩) ⟨301, 15, 301, 29⟩) (.acons (.cmp .eq (.var 2 "own" ⟨301, 34, 301, 37⟩) (.cst (.str [40]) ⟨301, 41, 301, 44⟩) ⟨301, 34, 301, 44⟩) .anil) ⟨301, 15, 301, 44⟩) b_L_flaw_8 b_L_flaw_12 ⟨301, 12, 306, 36⟩) b_L_flaw_13
abbrev b_L_flaw_15 : S := .scons (.ife (.isi (.var 6 "new" ⟨299, 26, 299, 29⟩) .tup ⟨299, 15, 299, 25⟩ ⟨299, 31, 299, 36⟩ ⟨299, 15, 299, 37⟩) b_L_flaw_7 .snil ⟨299, 12, 300, 26⟩) b_L_flaw_14
abbrev b_L_flaw_16 : S := .scons (.set 6 "new" ⟨298, 12, 298, 15⟩ (.ife (.cmp .eq (.var 4 "state" ⟨298, 50, 298, 55⟩) (.cst (.str [97, 115, 107]) ⟨298, 59, 298, 64⟩) ⟨298, 50, 298, 64⟩) (.call 36 "_law_ground" ⟨298, 18, 298, 29⟩ (.acons (.var 2 "own" ⟨298, 30, 298, 33⟩) (.acons (.var 1 "at" ⟨298, 35, 298, 37⟩) (.acons (.var 5 "groups" ⟨298, 39, 298, 45⟩) .anil))) ⟨298, 18, 298, 46⟩) (.call 35 "_law_behind" ⟨298, 70, 298, 81⟩ (.acons (.var 2 "own" ⟨298, 82, 298, 85⟩) (.acons (.var 1 "at" ⟨298, 87, 298, 89⟩) (.acons (.var 5 "groups" ⟨298, 91, 298, 97⟩) .anil))) ⟨298, 70, 298, 98⟩) ⟨298, 18, 298, 98⟩) ⟨298, 12, 298, 98⟩) b_L_flaw_15
abbrev b_L_flaw_17 : S := .scons (.ret (.tup (.acons (.var 1 "at" ⟨310, 24, 310, 26⟩) (.acons (.cst (.str [101, 120, 112, 101, 99, 116, 101, 100, 32, 78, 44, 32, 70, 44, 32, 71, 32, 111, 114, 32, 40]) ⟨310, 28, 310, 51⟩) .anil)) ⟨310, 23, 310, 52⟩) ⟨310, 16, 310, 52⟩) .snil
abbrev b_L_flaw_18 : S := .scons (.set 4 "state" ⟨311, 12, 311, 17⟩ (.cst (.str [97, 115, 107]) ⟨311, 20, 311, 25⟩) ⟨311, 12, 311, 25⟩) .snil
abbrev b_L_flaw_19 : S := .scons (.ife (.bo false (.cmp .eq (.var 2 "own" ⟨309, 15, 309, 18⟩) (.cst (.str []) ⟨309, 22, 309, 24⟩) ⟨309, 15, 309, 24⟩) (.acons (.cmp .nin (.var 2 "own" ⟨309, 28, 309, 31⟩) (.cst (.str [78, 70, 71]) ⟨309, 39, 309, 44⟩) ⟨309, 28, 309, 44⟩) .anil) ⟨309, 15, 309, 44⟩) b_L_flaw_17 .snil ⟨309, 12, 310, 52⟩) b_L_flaw_18
abbrev b_L_flaw_20 : S := .scons (.ret (.tup (.acons (.var 1 "at" ⟨314, 24, 314, 26⟩) (.acons (.cst (.str [101, 120, 112, 101, 99, 116, 101, 100, 32, 64, 32, 111, 114, 32, 61]) ⟨314, 28, 314, 45⟩) .anil)) ⟨314, 23, 314, 46⟩) ⟨314, 16, 314, 46⟩) .snil
abbrev b_L_flaw_21 : S := .scons (.set 4 "state" ⟨315, 12, 315, 17⟩ (.ife (.cmp .eq (.var 2 "own" ⟨315, 31, 315, 34⟩) (.cst (.str [64]) ⟨315, 38, 315, 41⟩) ⟨315, 31, 315, 41⟩) (.cst (.str [112, 108, 97, 99, 101]) ⟨315, 20, 315, 27⟩) (.cst (.str [110, 97, 109, 101]) ⟨315, 47, 315, 53⟩) ⟨315, 20, 315, 53⟩) ⟨315, 12, 315, 53⟩) .snil
abbrev b_L_flaw_22 : S := .scons (.ife (.cmp .nin (.var 2 "own" ⟨313, 15, 313, 18⟩) (.tup (.acons (.cst (.str [64]) ⟨313, 27, 313, 30⟩) (.acons (.cst (.str [61]) ⟨313, 32, 313, 35⟩) .anil)) ⟨313, 26, 313, 36⟩) ⟨313, 15, 313, 36⟩) b_L_flaw_20 .snil ⟨313, 12, 314, 46⟩) b_L_flaw_21
abbrev b_L_flaw_23 : S := .scons (.ret (.tup (.acons (.var 1 "at" ⟨317, 20, 317, 22⟩) (.acons (.bin .add (.cst (.str [101, 120, 112, 101, 99, 116, 101, 100, 32, 97, 32]) ⟨317, 24, 317, 37⟩) (.var 4 "state" ⟨317, 40, 317, 45⟩) ⟨317, 24, 317, 45⟩) .anil)) ⟨317, 19, 317, 46⟩) ⟨317, 12, 317, 46⟩) .snil
abbrev b_L_flaw_24 : S := .scons (.set 4 "state" ⟨319, 12, 319, 17⟩ (.cst (.str [98, 101, 104, 105, 110, 100]) ⟨319, 20, 319, 28⟩) ⟨319, 12, 319, 28⟩) .snil
abbrev b_L_flaw_25 : S := .scons (.ife (.bo false (.cmp .eq (.var 2 "own" ⟨316, 13, 316, 16⟩) (.cst (.str []) ⟨316, 20, 316, 22⟩) ⟨316, 13, 316, 22⟩) (.acons (.cmp .nin (.var 2 "own" ⟨316, 26, 316, 29⟩) (.ife (.cmp .eq (.var 4 "state" ⟨316, 48, 316, 53⟩) (.cst (.str [112, 108, 97, 99, 101]) ⟨316, 57, 316, 64⟩) ⟨316, 48, 316, 64⟩) (.cst (.str [48, 49, 50, 51]) ⟨316, 38, 316, 44⟩) (.cst (.str [97, 98, 99, 100, 101, 102, 103, 104, 105, 106, 88, 89, 90]) ⟨316, 70, 316, 85⟩) ⟨316, 38, 316, 85⟩) ⟨316, 26, 316, 86⟩) .anil) ⟨316, 13, 316, 86⟩) b_L_flaw_23 b_L_flaw_24 ⟨316, 8, 319, 28⟩) .snil
abbrev b_L_flaw_26 : S := .scons (.ife (.cmp .eq (.var 4 "state" ⟨312, 13, 312, 18⟩) (.cst (.str [115, 105, 103, 110]) ⟨312, 22, 312, 28⟩) ⟨312, 13, 312, 28⟩) b_L_flaw_22 b_L_flaw_25 ⟨312, 8, 319, 28⟩) .snil
abbrev b_L_flaw_27 : S := .scons (.ife (.cmp .eq (.var 4 "state" ⟨308, 13, 308, 18⟩) (.cst (.str [115, 116, 101, 112]) ⟨308, 22, 308, 28⟩) ⟨308, 13, 308, 28⟩) b_L_flaw_19 b_L_flaw_26 ⟨308, 8, 319, 28⟩) .snil
abbrev b_L_flaw_28 : S := .scons (.ife (.cmp .inn (.var 4 "state" ⟨297, 11, 297, 16⟩) (.tup (.acons (.cst (.str [97, 115, 107]) ⟨297, 21, 297, 26⟩) (.acons (.cst (.str [98, 101, 104, 105, 110, 100]) ⟨297, 28, 297, 36⟩) .anil)) ⟨297, 20, 297, 37⟩) ⟨297, 11, 297, 37⟩) b_L_flaw_16 b_L_flaw_27 ⟨297, 8, 319, 28⟩) .snil
abbrev b_L_flaw_29 : S := .scons (.ife (.bo true (.cmp .eq (.var 4 "state" ⟨292, 11, 292, 16⟩) (.cst (.str [115, 116, 101, 112]) ⟨292, 20, 292, 26⟩) ⟨292, 11, 292, 26⟩) (.acons (.cmp .eq (.var 2 "own" ⟨292, 31, 292, 34⟩) (.cst (.str [40]) ⟨292, 38, 292, 41⟩) ⟨292, 31, 292, 41⟩) .anil) ⟨292, 11, 292, 41⟩) b_L_flaw_6 .snil ⟨292, 8, 296, 20⟩) b_L_flaw_28
abbrev b_L_flaw_30 : S := .scons (.ret (.cst .non ⟨320, 11, 320, 15⟩) ⟨320, 4, 320, 15⟩) .snil
abbrev b_L_flaw_31 : S := .scons (.loop (.many [(2, "own", ⟨291, 8, 291, 11⟩), (1, "at", ⟨291, 13, 291, 15⟩)] ⟨291, 8, 291, 15⟩) (.iseq (.bin .add (.var 3 "signs" ⟨291, 19, 291, 24⟩) (.newl (.ldisp (.acons (.tup (.acons (.cst (.str []) ⟨291, 29, 291, 31⟩) (.acons (.b1 .len (.var 0 "text" ⟨291, 37, 291, 41⟩) ⟨291, 33, 291, 36⟩ ⟨291, 33, 291, 42⟩) .anil)) ⟨291, 28, 291, 43⟩) .anil) ⟨291, 27, 291, 44⟩)) ⟨291, 19, 291, 44⟩)) b_L_flaw_29 ⟨291, 4, 319, 28⟩) b_L_flaw_30
abbrev b_L_flaw_32 : S := .scons (.par [(4, "state", ⟨290, 4, 290, 9⟩), (5, "groups", ⟨290, 11, 290, 17⟩)] ⟨290, 4, 290, 17⟩ (.acons (.cst (.str [97, 115, 107]) ⟨290, 21, 290, 26⟩) (.acons (.newl (.ldisp .anil ⟨290, 28, 290, 30⟩)) .anil)) ⟨290, 20, 290, 31⟩ ⟨290, 4, 290, 31⟩) b_L_flaw_31
abbrev b_L_flaw_33 : S := .scons (.loop (.many [(2, "own", ⟨287, 8, 287, 11⟩), (1, "at", ⟨287, 13, 287, 15⟩)] ⟨287, 8, 287, 15⟩) (.iseq (.var 3 "signs" ⟨287, 19, 287, 24⟩)) b_L_flaw_2 ⟨287, 4, 289, 54⟩) b_L_flaw_32
abbrev b_L_flaw_34 : S := .scons (.set 3 "signs" ⟨286, 4, 286, 9⟩ (.newl (.lc (.tup (.acons (.var 2 "own" ⟨286, 14, 286, 17⟩) (.acons (.var 1 "at" ⟨286, 19, 286, 21⟩) .anil)) ⟨286, 13, 286, 22⟩) (.many [(1, "at", ⟨286, 27, 286, 29⟩), (2, "own", ⟨286, 31, 286, 34⟩)] ⟨286, 27, 286, 34⟩) (.ienum (.var 0 "text" ⟨286, 48, 286, 52⟩) ⟨286, 38, 286, 47⟩ ⟨286, 38, 286, 53⟩) (.osome (.cmp .ne (.var 2 "own" ⟨286, 57, 286, 60⟩) (.cst (.str [32]) ⟨286, 64, 286, 67⟩) ⟨286, 57, 286, 67⟩)) [("at", 1), ("own", 2)] ⟨.function, [(".0", .local), ("at", .local), ("own", .local)], false, false, []⟩ ⟨286, 12, 286, 68⟩)) ⟨286, 4, 286, 68⟩) b_L_flaw_33
abbrev b_L_flaw : S := b_L_flaw_34
def f_L_flaw : Fn := ⟨1, 7, b_L_flaw⟩
/-- 38 -/
abbrev b_L_near_1 : S := .scons (.set 2 "found" ⟨324, 8, 324, 13⟩ (.bin .add (.var 2 "found" ⟨324, 16, 324, 21⟩) (.call 28 "_law_pick" ⟨324, 24, 324, 33⟩ (.acons (.var 0 "row" ⟨324, 34, 324, 37⟩) (.acons (.var 1 "some" ⟨324, 39, 324, 43⟩) .anil)) ⟨324, 24, 324, 44⟩) ⟨324, 16, 324, 44⟩) ⟨324, 8, 324, 44⟩) .snil
abbrev b_L_near_2 : S := .scons (.set 2 "found" ⟨327, 8, 327, 13⟩ (.bin .add (.bin .add (.slc (.var 2 "found" ⟨327, 16, 327, 21⟩) .onone (.osome (.var 4 "at" ⟨327, 23, 327, 25⟩)) ⟨327, 22, 327, 25⟩ ⟨327, 16, 327, 26⟩) (.call 28 "_law_pick" ⟨327, 29, 327, 38⟩ (.acons (.var 0 "row" ⟨327, 39, 327, 42⟩) (.acons (.newl (.ldisp (.acons (.cst (.str []) ⟨327, 45, 327, 47⟩) (.acons (.cst (.str [64]) ⟨327, 49, 327, 52⟩) (.acons (.cst (.str [63]) ⟨327, 54, 327, 57⟩) (.acons (.cst (.str [52]) ⟨327, 59, 327, 62⟩) (.acons (.cst (.str [40]) ⟨327, 64, 327, 67⟩) (.acons (.cst (.str [107]) ⟨327, 69, 327, 72⟩) (.acons (.cst (.str [69]) ⟨327, 74, 327, 77⟩) (.acons (.cst (.str [97]) ⟨327, 79, 327, 82⟩) (.acons (.cst (.str [78]) ⟨327, 84, 327, 87⟩) (.acons (.cst (.str [85]) ⟨327, 89, 327, 92⟩) (.acons (.cst (.str [41]) ⟨327, 94, 327, 97⟩) .anil))))))))))) ⟨327, 44, 327, 98⟩)) .anil)) ⟨327, 29, 327, 99⟩) ⟨327, 16, 327, 99⟩) (.slc (.var 2 "found" ⟨327, 102, 327, 107⟩) (.osome (.bin .add (.var 4 "at" ⟨327, 108, 327, 110⟩) (.call 27 "_law_taken" ⟨327, 113, 327, 123⟩ (.acons (.var 0 "row" ⟨327, 124, 327, 127⟩) (.acons (.cst (.int 2) ⟨327, 129, 327, 130⟩) .anil)) ⟨327, 113, 327, 131⟩) ⟨327, 108, 327, 131⟩)) .onone ⟨327, 108, 327, 132⟩ ⟨327, 102, 327, 133⟩) ⟨327, 16, 327, 133⟩) ⟨327, 8, 327, 133⟩) .snil
abbrev b_L_near_3 : S := .scons (.set 4 "at" ⟨326, 8, 326, 10⟩ (.call 27 "_law_taken" ⟨326, 13, 326, 23⟩ (.acons (.var 0 "row" ⟨326, 24, 326, 27⟩) (.acons (.bin .add (.b1 .len (.var 2 "found" ⟨326, 33, 326, 38⟩) ⟨326, 29, 326, 32⟩ ⟨326, 29, 326, 39⟩) (.cst (.int 1) ⟨326, 42, 326, 43⟩) ⟨326, 29, 326, 43⟩) .anil)) ⟨326, 13, 326, 44⟩) ⟨326, 8, 326, 44⟩) b_L_near_2
abbrev b_L_near_4 : S := .scons (.set 2 "found" ⟨330, 8, 330, 13⟩ (.bin .add (.bin .add (.bin .add (.bin .add (.bin .mul (.cst (.str [40]) ⟨330, 16, 330, 19⟩) (.bin .sub (.var 5 "many" ⟨330, 23, 330, 27⟩) (.cst (.int 1) ⟨330, 30, 330, 31⟩) ⟨330, 23, 330, 31⟩) ⟨330, 16, 330, 32⟩) (.call 28 "_law_pick" ⟨330, 35, 330, 44⟩ (.acons (.var 0 "row" ⟨330, 45, 330, 48⟩) (.acons (.newl (.ldisp (.acons (.cst (.str [40]) ⟨330, 51, 330, 54⟩) (.acons (.cst (.str [69, 40]) ⟨330, 56, 330, 60⟩) .anil)) ⟨330, 50, 330, 61⟩)) .anil)) ⟨330, 35, 330, 62⟩) ⟨330, 16, 330, 62⟩) (.cst (.str [97, 64, 48]) ⟨330, 65, 330, 70⟩) ⟨330, 16, 330, 70⟩) (.bin .mul (.cst (.str [41]) ⟨330, 73, 330, 76⟩) (.bin .sub (.var 5 "many" ⟨330, 80, 330, 84⟩) (.call 27 "_law_taken" ⟨330, 87, 330, 97⟩ (.acons (.var 0 "row" ⟨330, 98, 330, 101⟩) (.acons (.cst (.int 2) ⟨330, 103, 330, 104⟩) .anil)) ⟨330, 87, 330, 105⟩) ⟨330, 80, 330, 105⟩) ⟨330, 73, 330, 106⟩) ⟨330, 16, 330, 106⟩) (.var 2 "found" ⟨330, 109, 330, 114⟩) ⟨330, 16, 330, 114⟩) ⟨330, 8, 330, 114⟩) .snil
abbrev b_L_near_5 : S := .scons (.set 5 "many" ⟨329, 8, 329, 12⟩ (.bin .add (.cst (.int 18) ⟨329, 15, 329, 17⟩) (.call 27 "_law_taken" ⟨329, 20, 329, 30⟩ (.acons (.var 0 "row" ⟨329, 31, 329, 34⟩) (.acons (.cst (.int 5) ⟨329, 36, 329, 37⟩) .anil)) ⟨329, 20, 329, 38⟩) ⟨329, 15, 329, 38⟩) ⟨329, 8, 329, 38⟩) b_L_near_4
abbrev b_L_near_6 : S := .scons (.ret (.slc (.var 2 "found" ⟨331, 11, 331, 16⟩) .onone (.osome (.cst (.int 200) ⟨331, 18, 331, 21⟩)) ⟨331, 17, 331, 21⟩ ⟨331, 11, 331, 22⟩) ⟨331, 4, 331, 22⟩) .snil
abbrev b_L_near_7 : S := .scons (.ife (.cmp .eq (.call 27 "_law_taken" ⟨328, 7, 328, 17⟩ (.acons (.var 0 "row" ⟨328, 18, 328, 21⟩) (.acons (.cst (.int 6) ⟨328, 23, 328, 24⟩) .anil)) ⟨328, 7, 328, 25⟩) (.cst (.int 0) ⟨328, 29, 328, 30⟩) ⟨328, 7, 328, 30⟩) b_L_near_5 .snil ⟨328, 4, 330, 114⟩) b_L_near_6
abbrev b_L_near_8 : S := .scons (.ife (.cmp .eq (.call 27 "_law_taken" ⟨325, 7, 325, 17⟩ (.acons (.var 0 "row" ⟨325, 18, 325, 21⟩) (.acons (.cst (.int 3) ⟨325, 23, 325, 24⟩) .anil)) ⟨325, 7, 325, 25⟩) (.cst (.int 0) ⟨325, 29, 325, 30⟩) ⟨325, 7, 325, 30⟩) b_L_near_3 .snil ⟨325, 4, 327, 133⟩) b_L_near_7
abbrev b_L_near_9 : S := .scons (.loop (.one 3 "turn" ⟨323, 8, 323, 12⟩) (.irng1 (.call 27 "_law_taken" ⟨323, 22, 323, 32⟩ (.acons (.var 0 "row" ⟨323, 33, 323, 36⟩) (.acons (.cst (.int 9) ⟨323, 38, 323, 39⟩) .anil)) ⟨323, 22, 323, 40⟩) ⟨323, 16, 323, 21⟩ ⟨323, 16, 323, 41⟩) b_L_near_1 ⟨323, 4, 324, 44⟩) b_L_near_8
abbrev b_L_near_10 : S := .scons (.par [(1, "some", ⟨322, 4, 322, 8⟩), (2, "found", ⟨322, 10, 322, 15⟩)] ⟨322, 4, 322, 15⟩ (.acons (.newl (.ldisp (.acons (.cst (.str [97, 64, 48]) ⟨322, 20, 322, 25⟩) (.acons (.cst (.str [98, 61, 88]) ⟨322, 27, 322, 32⟩) (.acons (.cst (.str [126]) ⟨322, 34, 322, 37⟩) (.acons (.cst (.str [40]) ⟨322, 39, 322, 42⟩) (.acons (.cst (.str [41]) ⟨322, 44, 322, 47⟩) (.acons (.cst (.str [38]) ⟨322, 49, 322, 52⟩) (.acons (.cst (.str [124]) ⟨322, 54, 322, 57⟩) (.acons (.cst (.str [32]) ⟨322, 59, 322, 62⟩) (.acons (.cst (.str [69, 78]) ⟨322, 64, 322, 68⟩) (.acons (.cst (.str [65, 40]) ⟨322, 70, 322, 74⟩) (.acons (.cst (.str [69, 40, 98, 64, 50, 85]) ⟨322, 76, 322, 84⟩) (.acons (.cst (.str [65, 71]) ⟨322, 86, 322, 90⟩) (.acons (.cst (.str [89, 61, 99, 41]) ⟨322, 92, 322, 98⟩) (.acons (.cst (.str [85]) ⟨322, 100, 322, 103⟩) (.acons (.cst (.str [69, 70, 40]) ⟨322, 105, 322, 110⟩) (.acons (.cst (.str [65]) ⟨322, 112, 322, 115⟩) (.acons (.cst (.str [85, 126]) ⟨322, 117, 322, 121⟩) .anil))))))))))))))))) ⟨322, 19, 322, 122⟩)) (.acons (.cst (.str []) ⟨322, 124, 322, 126⟩) .anil)) ⟨322, 18, 322, 127⟩ ⟨322, 4, 322, 127⟩) b_L_near_9
abbrev b_L_near : S := b_L_near_10
def f_L_near : Fn := ⟨1, 6, b_L_near⟩
/-- 39 -/
abbrev b_law_1 : S := .scons (.ret (.cst (.bl false) ⟨338, 19, 338, 24⟩) ⟨338, 12, 338, 24⟩) .snil
abbrev b_law_2 : S := .scons (.ife (.bo true (.cmp .le (.b1 .len (.var 4 "text" ⟨337, 15, 337, 19⟩) ⟨337, 11, 337, 14⟩ ⟨337, 11, 337, 20⟩) (.cst (.int 200) ⟨337, 24, 337, 27⟩) ⟨337, 11, 337, 27⟩) (.acons (.bo false (.cmp .isn (.call 24 "question_flaw" ⟨337, 33, 337, 46⟩ (.acons (.var 4 "text" ⟨337, 47, 337, 51⟩) .anil) ⟨337, 33, 337, 52⟩) (.cst .non ⟨337, 60, 337, 64⟩) ⟨337, 33, 337, 64⟩) (.acons (.not (.call 30 "_law_alike" ⟨337, 72, 337, 82⟩ (.acons (.callk 26 "plain_question" ⟨337, 83, 337, 97⟩ .anil (.kcons "text" (.var 4 "text" ⟨337, 103, 337, 107⟩) ⟨337, 98, 337, 107⟩ .knil) ⟨337, 83, 337, 108⟩) (.acons (.var 5 "due" ⟨337, 110, 337, 113⟩) .anil)) ⟨337, 72, 337, 114⟩) ⟨337, 68, 337, 114⟩) .anil) ⟨337, 33, 337, 114⟩) .anil) ⟨337, 11, 337, 115⟩) b_law_1 .snil ⟨337, 8, 338, 24⟩) .snil
abbrev b_law_3 : S := .scons (.par [(4, "text", ⟨336, 8, 336, 12⟩), (5, "due", ⟨336, 14, 336, 17⟩)] ⟨336, 8, 336, 17⟩ (.acons (.bin .add (.call 33 "_law_blank" ⟨336, 21, 336, 31⟩ (.acons (.var 1 "row" ⟨336, 32, 336, 35⟩) .anil) ⟨336, 21, 336, 36⟩) (.call 34 "_law_text" ⟨336, 39, 336, 48⟩ (.acons (.var 1 "row" ⟨336, 49, 336, 52⟩) (.acons (.var 3 "tree" ⟨336, 54, 336, 58⟩) (.acons (.cst (.int 0) ⟨336, 60, 336, 61⟩) .anil))) ⟨336, 39, 336, 62⟩) ⟨336, 21, 336, 62⟩) (.acons (.call 32 "_law_asked" ⟨336, 64, 336, 74⟩ (.acons (.var 3 "tree" ⟨336, 75, 336, 79⟩) (.acons (.cst (.int 0) ⟨336, 81, 336, 82⟩) .anil)) ⟨336, 64, 336, 83⟩) .anil)) ⟨336, 20, 336, 84⟩ ⟨336, 8, 336, 84⟩) b_law_2
abbrev b_law_4 : S := .scons (.set 3 "tree" ⟨335, 8, 335, 12⟩ (.call 31 "_law_ask" ⟨335, 15, 335, 23⟩ (.acons (.var 1 "row" ⟨335, 24, 335, 27⟩) (.acons (.newl (.ldisp (.acons (.cst (.str [97, 64, 48]) ⟨335, 30, 335, 35⟩) (.acons (.cst (.str [98, 64, 51]) ⟨335, 37, 335, 42⟩) (.acons (.cst (.str [99, 61, 88]) ⟨335, 44, 335, 49⟩) (.acons (.cst (.str [106, 61, 106]) ⟨335, 51, 335, 56⟩) (.acons (.cst (.str [90, 64, 50]) ⟨335, 58, 335, 63⟩) .anil))))) ⟨335, 29, 335, 64⟩)) (.acons (.bin .add (.cst (.int 1) ⟨335, 66, 335, 67⟩) (.call 27 "_law_taken" ⟨335, 70, 335, 80⟩ (.acons (.var 1 "row" ⟨335, 81, 335, 84⟩) (.acons (.cst (.int 5) ⟨335, 86, 335, 87⟩) .anil)) ⟨335, 70, 335, 88⟩) ⟨335, 66, 335, 88⟩) .anil))) ⟨335, 15, 335, 89⟩) ⟨335, 8, 335, 89⟩) b_law_3
abbrev b_law_5 : S := .scons (.ret (.cst (.bl false) ⟨343, 19, 343, 24⟩) ⟨343, 12, 343, 24⟩) .snil
abbrev b_law_6 : S := .scons (.ife (.bo false (.not (.call 30 "_law_alike" ⟨342, 15, 342, 25⟩ (.acons (.callk 24 "question_flaw" ⟨342, 26, 342, 39⟩ .anil (.kcons "text" (.var 4 "text" ⟨342, 45, 342, 49⟩) ⟨342, 40, 342, 49⟩ .knil) ⟨342, 26, 342, 50⟩) (.acons (.var 5 "due" ⟨342, 52, 342, 55⟩) .anil)) ⟨342, 15, 342, 56⟩) ⟨342, 11, 342, 56⟩) (.acons (.cmp .isn (.cmp .is (.call 26 "plain_question" ⟨342, 61, 342, 75⟩ (.acons (.var 4 "text" ⟨342, 76, 342, 80⟩) .anil) ⟨342, 61, 342, 81⟩) (.cst .non ⟨342, 85, 342, 89⟩) ⟨342, 61, 342, 89⟩) (.cmp .isn (.var 5 "due" ⟨342, 99, 342, 102⟩) (.cst .non ⟨342, 110, 342, 114⟩) ⟨342, 99, 342, 114⟩) ⟨342, 60, 342, 115⟩) .anil) ⟨342, 11, 342, 115⟩) b_law_5 .snil ⟨342, 8, 343, 24⟩) .snil
abbrev b_law_7 : S := .scons (.set 5 "due" ⟨341, 8, 341, 11⟩ (.call 37 "_law_flaw" ⟨341, 14, 341, 23⟩ (.acons (.var 4 "text" ⟨341, 24, 341, 28⟩) .anil) ⟨341, 14, 341, 29⟩) ⟨341, 8, 341, 29⟩) b_law_6
abbrev b_law_8 : S := .scons (.set 4 "text" ⟨340, 8, 340, 12⟩ (.call 38 "_law_near" ⟨340, 15, 340, 24⟩ (.acons (.var 1 "row" ⟨340, 25, 340, 28⟩) .anil) ⟨340, 15, 340, 29⟩) ⟨340, 8, 340, 29⟩) b_law_7
abbrev b_law_9 : S := .scons (.ret (.bo true (.call 30 "_law_alike" ⟨350, 11, 350, 21⟩ (.acons (.var 6 "told" ⟨350, 22, 350, 26⟩) (.acons (.var 5 "due" ⟨350, 28, 350, 31⟩) .anil)) ⟨350, 11, 350, 32⟩) (.acons (.cmp .eq (.var 7 "refused" ⟨350, 37, 350, 44⟩) (.newl (.ldisp (.acons (.cst (.str [116, 101, 120, 116]) ⟨350, 49, 350, 55⟩) (.acons (.cst (.str [116, 101, 120, 116]) ⟨350, 57, 350, 63⟩) .anil)) ⟨350, 48, 350, 64⟩)) ⟨350, 37, 350, 64⟩) .anil) ⟨350, 11, 350, 64⟩) ⟨350, 4, 350, 64⟩) .snil
abbrev b_law_10 : S := .scons (.set 7 "refused" ⟨347, 4, 347, 11⟩ (.newl (.ldisp (.acons (.refd 0 21 "_law_refused" ⟨347, 15, 347, 27⟩ ⟨.function, [("bad", .free), ("question_flaw", .globalImplicit)], false, false, []⟩ (.call 24 "question_flaw" ⟨348, 8, 348, 21⟩ (.acons (.var 8 "bad" ⟨348, 22, 348, 25⟩) .anil) ⟨348, 8, 348, 26⟩) ⟨348, 0, 348, 26⟩ ⟨347, 15, 348, 28⟩) (.acons (.refd 0 21 "_law_refused" ⟨348, 30, 348, 42⟩ ⟨.function, [("bad", .free), ("plain_question", .globalImplicit)], false, false, []⟩ (.call 26 "plain_question" ⟨349, 8, 349, 22⟩ (.acons (.var 8 "bad" ⟨349, 23, 349, 26⟩) .anil) ⟨349, 8, 349, 27⟩) ⟨349, 0, 349, 27⟩ ⟨348, 30, 349, 29⟩) .anil)) ⟨347, 14, 349, 30⟩)) ⟨347, 4, 349, 30⟩) b_law_9
abbrev b_law_11 : S := .scons (.set 8 "bad" ⟨346, 4, 346, 7⟩ (.call 28 "_law_pick" ⟨346, 10, 346, 19⟩ (.acons (.var 1 "row" ⟨346, 20, 346, 23⟩) (.acons (.newl (.ldisp (.acons (.cst .non ⟨346, 26, 346, 30⟩) (.acons (.cst (.int 5) ⟨346, 32, 346, 33⟩) (.acons (.bin .mul (.cst (.str [97]) ⟨346, 35, 346, 38⟩) (.cst (.int 201) ⟨346, 41, 346, 44⟩) ⟨346, 35, 346, 44⟩) (.acons (.tup (.acons (.cst (.str [97, 64, 48]) ⟨346, 47, 346, 52⟩) .anil) ⟨346, 46, 346, 54⟩) .anil)))) ⟨346, 25, 346, 55⟩)) .anil)) ⟨346, 10, 346, 56⟩) ⟨346, 4, 346, 56⟩) b_law_10
abbrev b_law_12 : S := .scons (.set 5 "due" ⟨345, 4, 345, 7⟩ (.tup (.acons (.cst (.str [69, 40, 97, 64, 48, 124, 98, 64, 49, 85, 65, 71, 126, 126, 88, 61, 97, 41]) ⟨345, 11, 345, 31⟩) (.acons (.tup (.acons (.cst (.int 5) ⟨345, 34, 345, 35⟩) (.acons (.cst (.str [101, 120, 112, 101, 99, 116, 101, 100, 32, 85]) ⟨345, 37, 345, 49⟩) .anil)) ⟨345, 33, 345, 50⟩) (.acons (.tup (.acons (.cst (.int 1) ⟨345, 53, 345, 54⟩) (.acons (.cst (.str [101, 120, 112, 101, 99, 116, 101, 100, 32, 78, 44, 32, 70, 44, 32, 71, 32, 111, 114, 32, 40]) ⟨345, 56, 345, 79⟩) .anil)) ⟨345, 52, 345, 80⟩) (.acons (.tup (.acons (.cst (.int 9) ⟨345, 83, 345, 84⟩) (.acons (.cst (.str [101, 120, 112, 101, 99, 116, 101, 100, 32, 41]) ⟨345, 86, 345, 98⟩) .anil)) ⟨345, 82, 345, 99⟩) .anil)))) ⟨345, 10, 345, 100⟩) ⟨345, 4, 345, 100⟩) b_law_11
abbrev b_law_13 : S := .scons (.set 6 "told" ⟨344, 4, 344, 8⟩ (.tup (.acons (.call 26 "plain_question" ⟨344, 12, 344, 26⟩ (.acons (.cst (.str [32, 69, 32, 40, 40, 40, 97, 64, 48, 41, 124, 98, 64, 49, 41, 32, 85, 32, 40, 65, 32, 71, 32, 126, 40, 126, 88, 61, 97, 41, 41, 41]) ⟨344, 27, 344, 61⟩) .anil) ⟨344, 12, 344, 62⟩) (.acons (.call 24 "question_flaw" ⟨344, 64, 344, 77⟩ (.acons (.cst (.str [69, 40, 97, 64, 48, 41]) ⟨344, 78, 344, 86⟩) .anil) ⟨344, 64, 344, 87⟩) (.acons (.call 24 "question_flaw" ⟨344, 89, 344, 102⟩ (.acons (.cst (.str [65, 88, 64, 48]) ⟨344, 103, 344, 109⟩) .anil) ⟨344, 89, 344, 110⟩) (.acons (.call 24 "question_flaw" ⟨344, 112, 344, 125⟩ (.acons (.cst (.str [69, 40, 97, 64, 48, 85, 98, 64, 49]) ⟨344, 126, 344, 137⟩) .anil) ⟨344, 112, 344, 138⟩) .anil)))) ⟨344, 11, 344, 139⟩) ⟨344, 4, 344, 139⟩) b_law_12
abbrev b_law_14 : S := .scons (.loop (.one 2 "turn" ⟨339, 8, 339, 12⟩) (.irng1 (.cst (.int 14) ⟨339, 22, 339, 24⟩) ⟨339, 16, 339, 21⟩ ⟨339, 16, 339, 25⟩) b_law_8 ⟨339, 4, 343, 24⟩) b_law_13
abbrev b_law_15 : S := .scons (.loop (.one 2 "turn" ⟨334, 8, 334, 12⟩) (.irng1 (.cst (.int 8) ⟨334, 22, 334, 23⟩) ⟨334, 16, 334, 21⟩ ⟨334, 16, 334, 24⟩) b_law_4 ⟨334, 4, 338, 24⟩) b_law_14
abbrev b_law_16 : S := .scons (.set 1 "row" ⟨333, 4, 333, 7⟩ (.newl (.ldisp (.acons (.var 0 "script" ⟨333, 11, 333, 17⟩) (.acons (.cst (.int 0) ⟨333, 19, 333, 20⟩) (.acons (.cst (.int 138151) ⟨333, 22, 333, 28⟩) (.acons (.cst (.int 0) ⟨333, 30, 333, 31⟩) .anil)))) ⟨333, 10, 333, 32⟩)) ⟨333, 4, 333, 32⟩) b_law_15
abbrev b_law : S := b_law_16
def f_law : Fn := ⟨1, 9, b_law⟩
def fnl : List (Nat × Fn) := ([(2, f_need), (3, f_Wish_init), (4, f_Reader_init), (5, f_Reader_ahead), (6, f_Reader_fail), (7, f_Reader_take), (8, f_Reader_whole), (9, f_Reader_either), (10, f_Reader_both), (11, f_Reader_single), (12, f_Reader_ground), (13, f_need_text), (14, f_Question_init), (15, f_QuestionReader_init), (16, f_QuestionReader_either), (17, f_QuestionReader_both), (18, f_QuestionReader_single), (19, f_QuestionReader_begin_group), (20, f_QuestionReader_end_group), (21, f_QuestionReader_until)] : List (Nat × Fn)) ++ ([(22, f_QuestionReader_ground), (23, f_wrapped), (24, f_question_flaw), (25, f_written_question), (26, f_plain_question), (27, f_L_taken), (28, f_L_pick), (30, f_L_alike), (31, f_L_ask), (32, f_L_asked), (33, f_L_blank), (34, f_L_text), (35, f_L_behind), (36, f_L_ground), (37, f_L_flaw), (38, f_L_near)] : List (Nat × Fn))
def fn : Nat → Option Fn := fun f => fnl.lookup f
def mdl : List ((Nat × Nat) × Nat) := [((3, 7), 5), ((3, 10), 10), ((3, 9), 9), ((3, 8), 6), ((3, 12), 12), ((3, 11), 11), ((3, 13), 7), ((3, 20), 8), ((5, 7), 5), ((5, 16), 19), ((5, 10), 17), ((5, 9), 16), ((5, 17), 20), ((5, 8), 6), ((5, 12), 22), ((5, 11), 18), ((5, 13), 7), ((5, 15), 21), ((5, 20), 8)]
def inl : List (Nat × Nat) := [(2, 3), (3, 4), (4, 14), (5, 15)]
def xfl : List (Nat × List Nat) := [(0, [21]), (1, [18, 19])]
def xil : List (Nat × Nat) := [(0, 0), (1, 1)]
def md : Nat → Nat → Option Nat := fun c m => mdl.lookup (c, m)
def ini : Nat → Option Nat := fun c => inl.lookup c
def xf : Nat → Option (List Nat) := fun c => xfl.lookup c
def prog : Pr := ⟨fn, md, ini, xf⟩
/-- names of attributes -/
def nms : List Str := ["form", "names", "inner", "signs", "size", "at", "deep", "ahead", "fail", "either", "both", "single", "ground", "take", "fact", "until", "begin_group", "end_group", "place", "message", "whole", "name"]
/-- classes -/
def clss : List Str := ["BadArgument", "Flaw", "Wish", "Reader", "Question", "QuestionReader"]
/-- need: slots -/
def n_need : List Str := ["is_right", "name"]
/-- Wish_init: slots -/
def n_Wish_init : List Str := ["self", "form", "names", "inner"]
/-- Reader_init: slots -/
def n_Reader_init : List Str := ["self", "text", "own", "place", "at"]
/-- Reader_ahead: slots -/
def n_Reader_ahead : List Str := ["self"]
/-- Reader_fail: slots -/
def n_Reader_fail : List Str := ["self", "message"]
/-- Reader_take: slots -/
def n_Reader_take : List Str := ["self", "signs", "message", "own"]
/-- Reader_whole: slots -/
def n_Reader_whole : List Str := ["self", "found"]
/-- Reader_either: slots -/
def n_Reader_either : List Str := ["self", "found"]
/-- Reader_both: slots -/
def n_Reader_both : List Str := ["self", "found"]
/-- Reader_single: slots -/
def n_Reader_single : List Str := ["self", "count", "found", "turn"]
/-- Reader_ground: slots -/
def n_Reader_ground : List Str := ["self", "found", "name"]
/-- need_text: slots -/
def n_need_text : List Str := ["text"]
/-- Question_init: slots -/
def n_Question_init : List Str := ["self", "form", "fact", "inner"]
/-- QuestionReader_init: slots -/
def n_QuestionReader_init : List Str := ["self", "text", "own", "place", "at"]
/-- QuestionReader_either: slots -/
def n_QuestionReader_either : List Str := ["self", "found"]
/-- QuestionReader_both: slots -/
def n_QuestionReader_both : List Str := ["self", "found"]
/-- QuestionReader_single: slots -/
def n_QuestionReader_single : List Str := ["self", "forms", "sign"]
/-- QuestionReader_begin_group: slots -/
def n_QuestionReader_begin_group : List Str := ["self"]
/-- QuestionReader_end_group: slots -/
def n_QuestionReader_end_group : List Str := ["self"]
/-- QuestionReader_until: slots -/
def n_QuestionReader_until : List Str := ["self", "sign", "first", "found"]
/-- QuestionReader_ground: slots -/
def n_QuestionReader_ground : List Str := ["self", "found", "name"]
/-- wrapped: slots -/
def n_wrapped : List Str := ["forms", "question", "form"]
/-- question_flaw: slots -/
def n_question_flaw : List Str := ["text", "e"]
/-- written_question: slots -/
def n_written_question : List Str := ["question", "level", "form", "inner", "own", "text"]
/-- plain_question: slots -/
def n_plain_question : List Str := ["text"]
/-- L_taken: slots -/
def n_L_taken : List Str := ["row", "many", "found", "cell"]
/-- L_pick: slots -/
def n_L_pick : List Str := ["row", "some"]
/-- L_alike: slots -/
def n_L_alike : List Str := ["found", "due", "at"]
/-- L_ask: slots -/
def n_L_ask : List Str := ["row", "facts", "deep", "sign", "one"]
/-- L_asked: slots -/
def n_L_asked : List Str := ["tree", "level", "sign", "one", "other", "own", "found"]
/-- L_blank: slots -/
def n_L_blank : List Str := ["row"]
/-- L_text: slots -/
def n_L_text : List Str := ["row", "tree", "level", "sign", "one", "other", "gap", "own", "found"]
/-- L_behind: slots -/
def n_L_behind : List Str := ["own", "at", "groups"]
/-- L_ground: slots -/
def n_L_ground : List Str := ["own", "at", "groups"]
/-- L_flaw: slots -/
def n_L_flaw : List Str := ["text", "at", "own", "signs", "state", "groups", "new"]
/-- L_near: slots -/
def n_L_near : List Str := ["row", "some", "found", "turn", "at", "many"]
/-- law: slots -/
def n_law : List Str := ["script", "row", "turn", "tree", "text", "due", "told", "refused", "bad"]
def ats : List (Str × Option Str) := ([("BadArgument", some "__init__"), ("Flaw", some "__init__"), ("need", none), ("Wish", some "__init__"), ("Reader", some "__init__"), ("Reader", some "ahead"), ("Reader", some "fail"), ("Reader", some "take"), ("Reader", some "whole"), ("Reader", some "either"), ("Reader", some "both"), ("Reader", some "single"), ("Reader", some "ground"), ("need_text", none), ("Question", some "__init__"), ("QuestionReader", some "__init__"), ("QuestionReader", some "either"), ("QuestionReader", some "both"), ("QuestionReader", some "single"), ("QuestionReader", some "begin_group")] : List (Str × Option Str)) ++ ([("QuestionReader", some "end_group"), ("QuestionReader", some "until"), ("QuestionReader", some "ground"), ("wrapped", none), ("question_flaw", none), ("written_question", none), ("plain_question", none), ("_law_taken", none), ("_law_pick", none), ("_law_refused", none), ("_law_alike", none), ("_law_ask", none), ("_law_asked", none), ("_law_blank", none), ("_law_text", none), ("_law_behind", none), ("_law_ground", none), ("_law_flaw", none), ("_law_near", none), ("law", none)] : List (Str × Option Str))
def pss : List (List Str) := ([["self", "name"], ["self", "place", "message"], ["is_right", "name"], ["self", "form", "names", "inner"], ["self", "text"], ["self"], ["self", "message"], ["self", "signs", "message"], ["self"], ["self"], ["self"], ["self"], ["self"], ["text"], ["self", "form", "fact", "inner"], ["self", "text"], ["self"], ["self"], ["self"], ["self"]] : List (List Str)) ++ ([["self"], ["self", "sign"], ["self"], ["forms", "question"], ["text"], ["question", "level"], ["text"], ["row", "many"], ["row", "some"], ["call"], ["found", "due"], ["row", "facts", "deep"], ["tree", "level"], ["row"], ["row", "tree", "level"], ["own", "at", "groups"], ["own", "at", "groups"], ["text"], ["row"], ["script"]] : List (List Str))
def cons : List (Str × D) := [("LETTERS", (.str [97, 98, 99, 100, 101, 102, 103, 104, 105, 106])), ("DIGITS", (.str [48, 49, 50, 51])), ("BOATS", (.str [88, 89, 90])), ("MOST_TEXT", (.int 200)), ("MOST_DEEP", (.int 20)), ("AT", (.str [64])), ("SAME", (.str [61])), ("NOT", (.str [126])), ("AND", (.str [38])), ("OR", (.str [124])), ("FACT", (.str [102, 97, 99, 116])), ("SOME", (.str [69])), ("ALL", (.str [65])), ("UNTIL", (.str [85])), ("STEPS", (.str [78, 70, 71])), ("SIGNS", (.str [97, 98, 99, 100, 101, 102, 103, 104, 105, 106, 48, 49, 50, 51, 88, 89, 90, 64, 61, 126, 38, 124, 40, 41, 69, 65, 78, 70, 71, 85]))]
def kws : List (Nat × Nat × List Str) := [(24, 0, ["text"]), (26, 0, ["text"])]
end P35

namespace P35
open PySem PySem.Spec PyProof.Rows L2 Mx Ms

def topS (i : Nat) : Stmt := PySem.Challenge.pw_ferriedover_k35_whole_questions_and_thei.main.body.getD i (.Pass ⟨0, 0, 0, 0⟩)
def subS (i j : Nat) : Stmt := match topS i with
  | .ClassDef _ _ _ b _ _ _ _ _ _ _ => b.getD j (.Pass ⟨0, 0, 0, 0⟩)
  | _ => .Pass ⟨0, 0, 0, 0⟩
def d_BadArgument_init : He.DefD := ⟨("BadArgument", some "__init__"), "__init__", "BadArgument.__init__", defArgs (subS 1 0), defBody (subS 1 0), defScope (subS 1 0), [], []⟩
def d_Flaw_init : He.DefD := ⟨("Flaw", some "__init__"), "__init__", "Flaw.__init__", defArgs (subS 2 0), defBody (subS 2 0), defScope (subS 2 0), [], []⟩
def d_need : He.DefD := ⟨("need", none), "need", "need", defArgs (topS 4), defBody (topS 4), defScope (topS 4), [], []⟩
def d_Wish_init : He.DefD := ⟨("Wish", some "__init__"), "__init__", "Wish.__init__", defArgs (subS 16 0), defBody (subS 16 0), defScope (subS 16 0), [], []⟩
def d_Reader_init : He.DefD := ⟨("Reader", some "__init__"), "__init__", "Reader.__init__", defArgs (subS 17 0), defBody (subS 17 0), defScope (subS 17 0), [], []⟩
def d_Reader_ahead : He.DefD := ⟨("Reader", some "ahead"), "ahead", "Reader.ahead", defArgs (subS 17 1), defBody (subS 17 1), defScope (subS 17 1), [], []⟩
def d_Reader_fail : He.DefD := ⟨("Reader", some "fail"), "fail", "Reader.fail", defArgs (subS 17 2), defBody (subS 17 2), defScope (subS 17 2), [], []⟩
def d_Reader_take : He.DefD := ⟨("Reader", some "take"), "take", "Reader.take", defArgs (subS 17 3), defBody (subS 17 3), defScope (subS 17 3), [], []⟩
def d_Reader_whole : He.DefD := ⟨("Reader", some "whole"), "whole", "Reader.whole", defArgs (subS 17 4), defBody (subS 17 4), defScope (subS 17 4), [], []⟩
def d_Reader_either : He.DefD := ⟨("Reader", some "either"), "either", "Reader.either", defArgs (subS 17 5), defBody (subS 17 5), defScope (subS 17 5), [], []⟩
def d_Reader_both : He.DefD := ⟨("Reader", some "both"), "both", "Reader.both", defArgs (subS 17 6), defBody (subS 17 6), defScope (subS 17 6), [], []⟩
def d_Reader_single : He.DefD := ⟨("Reader", some "single"), "single", "Reader.single", defArgs (subS 17 7), defBody (subS 17 7), defScope (subS 17 7), [], []⟩
def d_Reader_ground : He.DefD := ⟨("Reader", some "ground"), "ground", "Reader.ground", defArgs (subS 17 8), defBody (subS 17 8), defScope (subS 17 8), [], []⟩
def d_need_text : He.DefD := ⟨("need_text", none), "need_text", "need_text", defArgs (topS 18), defBody (topS 18), defScope (topS 18), [], []⟩
def d_Question_init : He.DefD := ⟨("Question", some "__init__"), "__init__", "Question.__init__", defArgs (subS 26 0), defBody (subS 26 0), defScope (subS 26 0), [], []⟩
def d_QuestionReader_init : He.DefD := ⟨("QuestionReader", some "__init__"), "__init__", "QuestionReader.__init__", defArgs (subS 27 0), defBody (subS 27 0), defScope (subS 27 0), [], []⟩
def d_QuestionReader_either : He.DefD := ⟨("QuestionReader", some "either"), "either", "QuestionReader.either", defArgs (subS 27 1), defBody (subS 27 1), defScope (subS 27 1), [], []⟩
def d_QuestionReader_both : He.DefD := ⟨("QuestionReader", some "both"), "both", "QuestionReader.both", defArgs (subS 27 2), defBody (subS 27 2), defScope (subS 27 2), [], []⟩
def d_QuestionReader_single : He.DefD := ⟨("QuestionReader", some "single"), "single", "QuestionReader.single", defArgs (subS 27 3), defBody (subS 27 3), defScope (subS 27 3), [], []⟩
def d_QuestionReader_begin_group : He.DefD := ⟨("QuestionReader", some "begin_group"), "begin_group", "QuestionReader.begin_group", defArgs (subS 27 4), defBody (subS 27 4), defScope (subS 27 4), [], []⟩
def d_QuestionReader_end_group : He.DefD := ⟨("QuestionReader", some "end_group"), "end_group", "QuestionReader.end_group", defArgs (subS 27 5), defBody (subS 27 5), defScope (subS 27 5), [], []⟩
def d_QuestionReader_until : He.DefD := ⟨("QuestionReader", some "until"), "until", "QuestionReader.until", defArgs (subS 27 6), defBody (subS 27 6), defScope (subS 27 6), [], []⟩
def d_QuestionReader_ground : He.DefD := ⟨("QuestionReader", some "ground"), "ground", "QuestionReader.ground", defArgs (subS 27 7), defBody (subS 27 7), defScope (subS 27 7), [], []⟩
def d_wrapped : He.DefD := ⟨("wrapped", none), "wrapped", "wrapped", defArgs (topS 28), defBody (topS 28), defScope (topS 28), [], []⟩
def d_question_flaw : He.DefD := ⟨("question_flaw", none), "question_flaw", "question_flaw", defArgs (topS 29), defBody (topS 29), defScope (topS 29), [], []⟩
def d_written_question : He.DefD := ⟨("written_question", none), "written_question", "written_question", defArgs (topS 30), defBody (topS 30), defScope (topS 30), [], []⟩
def d_plain_question : He.DefD := ⟨("plain_question", none), "plain_question", "plain_question", defArgs (topS 31), defBody (topS 31), defScope (topS 31), [], []⟩
def d_L_taken : He.DefD := ⟨("_law_taken", none), "_law_taken", "_law_taken", defArgs (topS 33), defBody (topS 33), defScope (topS 33), [], []⟩
def d_L_pick : He.DefD := ⟨("_law_pick", none), "_law_pick", "_law_pick", defArgs (topS 34), defBody (topS 34), defScope (topS 34), [], []⟩
def d_L_refused : He.DefD := ⟨("_law_refused", none), "_law_refused", "_law_refused", defArgs (topS 35), defBody (topS 35), defScope (topS 35), [], []⟩
def d_L_alike : He.DefD := ⟨("_law_alike", none), "_law_alike", "_law_alike", defArgs (topS 36), defBody (topS 36), defScope (topS 36), [], []⟩
def d_L_ask : He.DefD := ⟨("_law_ask", none), "_law_ask", "_law_ask", defArgs (topS 37), defBody (topS 37), defScope (topS 37), [], []⟩
def d_L_asked : He.DefD := ⟨("_law_asked", none), "_law_asked", "_law_asked", defArgs (topS 38), defBody (topS 38), defScope (topS 38), [], []⟩
def d_L_blank : He.DefD := ⟨("_law_blank", none), "_law_blank", "_law_blank", defArgs (topS 39), defBody (topS 39), defScope (topS 39), [], []⟩
def d_L_text : He.DefD := ⟨("_law_text", none), "_law_text", "_law_text", defArgs (topS 40), defBody (topS 40), defScope (topS 40), [], []⟩
def d_L_behind : He.DefD := ⟨("_law_behind", none), "_law_behind", "_law_behind", defArgs (topS 41), defBody (topS 41), defScope (topS 41), [], []⟩
def d_L_ground : He.DefD := ⟨("_law_ground", none), "_law_ground", "_law_ground", defArgs (topS 42), defBody (topS 42), defScope (topS 42), [], []⟩
def d_L_flaw : He.DefD := ⟨("_law_flaw", none), "_law_flaw", "_law_flaw", defArgs (topS 43), defBody (topS 43), defScope (topS 43), [], []⟩
def d_L_near : He.DefD := ⟨("_law_near", none), "_law_near", "_law_near", defArgs (topS 44), defBody (topS 44), defScope (topS 44), [], []⟩
def d_law : He.DefD := ⟨("law", none), "law", "law", defArgs (topS 45), defBody (topS 45), defScope (topS 45), [], []⟩
def ds : List He.DefD := ([d_BadArgument_init, d_Flaw_init, d_need, d_Wish_init, d_Reader_init, d_Reader_ahead, d_Reader_fail, d_Reader_take, d_Reader_whole, d_Reader_either, d_Reader_both, d_Reader_single, d_Reader_ground, d_need_text, d_Question_init, d_QuestionReader_init, d_QuestionReader_either, d_QuestionReader_both, d_QuestionReader_single, d_QuestionReader_begin_group] : List He.DefD) ++ ([d_QuestionReader_end_group, d_QuestionReader_until, d_QuestionReader_ground, d_wrapped, d_question_flaw, d_written_question, d_plain_question, d_L_taken, d_L_pick, d_L_refused, d_L_alike, d_L_ask, d_L_asked, d_L_blank, d_L_text, d_L_behind, d_L_ground, d_L_flaw, d_L_near, d_law] : List He.DefD)
def lsc : List (Str × NameKind) := (defScope (topS 45)).names
def hd : HDat := ⟨fnl, mdl, inl, xfl, xil, nms, clss, ats, pss, cons, lsc, ("_law_refused", 0, 21), kws⟩
theorem bd_BadArgument_init : BindS ["self", "name"] d_BadArgument_init := ⟨rfl, fun _ _ _ _ _ _ us hl => match us, hl with | [_, _], _ => rfl⟩
theorem bd_Flaw_init : BindS ["self", "place", "message"] d_Flaw_init := ⟨rfl, fun _ _ _ _ _ _ us hl => match us, hl with | [_, _, _], _ => rfl⟩
theorem bd_need : BindS ["is_right", "name"] d_need := ⟨rfl, fun _ _ _ _ _ _ us hl => match us, hl with | [_, _], _ => rfl⟩
theorem s_need : FnS hd f_need ["is_right", "name"] d_need := ⟨⟨n_need, ⟨rfl, rfl, rfl, by decide +kernel, rfl, by decide +kernel, by decide +kernel⟩, by decide +kernel, rfl, by decide +kernel⟩, by rfl, rfl, rfl⟩
theorem bd_Wish_init : BindS ["self", "form", "names", "inner"] d_Wish_init := ⟨rfl, fun _ _ _ _ _ _ us hl => match us, hl with | [_, _, _, _], _ => rfl⟩
theorem s_Wish_init : FnS hd f_Wish_init ["self", "form", "names", "inner"] d_Wish_init := ⟨⟨n_Wish_init, ⟨rfl, rfl, rfl, by decide +kernel, rfl, by decide +kernel, by decide +kernel⟩, by decide +kernel, rfl, by decide +kernel⟩, by rfl, rfl, rfl⟩
theorem bd_Reader_init : BindS ["self", "text"] d_Reader_init := ⟨rfl, fun _ _ _ _ _ _ us hl => match us, hl with | [_, _], _ => rfl⟩
theorem s_Reader_init : FnS hd f_Reader_init ["self", "text"] d_Reader_init := ⟨⟨n_Reader_init, ⟨rfl, rfl, rfl, by decide +kernel, rfl, by decide +kernel, by decide +kernel⟩, by decide +kernel, rfl, by decide +kernel⟩, by rfl, rfl, rfl⟩
theorem bd_Reader_ahead : BindS ["self"] d_Reader_ahead := ⟨rfl, fun _ _ _ _ _ _ us hl => match us, hl with | [_], _ => rfl⟩
theorem s_Reader_ahead : FnS hd f_Reader_ahead ["self"] d_Reader_ahead := ⟨⟨n_Reader_ahead, ⟨rfl, rfl, rfl, by decide +kernel, rfl, by decide +kernel, by decide +kernel⟩, by decide +kernel, rfl, by decide +kernel⟩, by rfl, rfl, rfl⟩
theorem bd_Reader_fail : BindS ["self", "message"] d_Reader_fail := ⟨rfl, fun _ _ _ _ _ _ us hl => match us, hl with | [_, _], _ => rfl⟩
theorem s_Reader_fail : FnS hd f_Reader_fail ["self", "message"] d_Reader_fail := ⟨⟨n_Reader_fail, ⟨rfl, rfl, rfl, by decide +kernel, rfl, by decide +kernel, by decide +kernel⟩, by decide +kernel, rfl, by decide +kernel⟩, by rfl, rfl, rfl⟩
theorem bd_Reader_take : BindS ["self", "signs", "message"] d_Reader_take := ⟨rfl, fun _ _ _ _ _ _ us hl => match us, hl with | [_, _, _], _ => rfl⟩
theorem s_Reader_take : FnS hd f_Reader_take ["self", "signs", "message"] d_Reader_take := ⟨⟨n_Reader_take, ⟨rfl, rfl, rfl, by decide +kernel, rfl, by decide +kernel, by decide +kernel⟩, by decide +kernel, rfl, by decide +kernel⟩, by rfl, rfl, rfl⟩
theorem bd_Reader_whole : BindS ["self"] d_Reader_whole := ⟨rfl, fun _ _ _ _ _ _ us hl => match us, hl with | [_], _ => rfl⟩
theorem s_Reader_whole : FnS hd f_Reader_whole ["self"] d_Reader_whole := ⟨⟨n_Reader_whole, ⟨rfl, rfl, rfl, by decide +kernel, rfl, by decide +kernel, by decide +kernel⟩, by decide +kernel, rfl, by decide +kernel⟩, by rfl, rfl, rfl⟩
theorem bd_Reader_either : BindS ["self"] d_Reader_either := ⟨rfl, fun _ _ _ _ _ _ us hl => match us, hl with | [_], _ => rfl⟩
theorem s_Reader_either : FnS hd f_Reader_either ["self"] d_Reader_either := ⟨⟨n_Reader_either, ⟨rfl, rfl, rfl, by decide +kernel, rfl, by decide +kernel, by decide +kernel⟩, by decide +kernel, rfl, by decide +kernel⟩, by rfl, rfl, rfl⟩
theorem bd_Reader_both : BindS ["self"] d_Reader_both := ⟨rfl, fun _ _ _ _ _ _ us hl => match us, hl with | [_], _ => rfl⟩
theorem s_Reader_both : FnS hd f_Reader_both ["self"] d_Reader_both := ⟨⟨n_Reader_both, ⟨rfl, rfl, rfl, by decide +kernel, rfl, by decide +kernel, by decide +kernel⟩, by decide +kernel, rfl, by decide +kernel⟩, by rfl, rfl, rfl⟩
theorem bd_Reader_single : BindS ["self"] d_Reader_single := ⟨rfl, fun _ _ _ _ _ _ us hl => match us, hl with | [_], _ => rfl⟩
theorem s_Reader_single : FnS hd f_Reader_single ["self"] d_Reader_single := ⟨⟨n_Reader_single, ⟨rfl, rfl, rfl, by decide +kernel, rfl, by decide +kernel, by decide +kernel⟩, by decide +kernel, rfl, by decide +kernel⟩, by rfl, rfl, rfl⟩
theorem bd_Reader_ground : BindS ["self"] d_Reader_ground := ⟨rfl, fun _ _ _ _ _ _ us hl => match us, hl with | [_], _ => rfl⟩
theorem s_Reader_ground : FnS hd f_Reader_ground ["self"] d_Reader_ground := ⟨⟨n_Reader_ground, ⟨rfl, rfl, rfl, by decide +kernel, rfl, by decide +kernel, by decide +kernel⟩, by decide +kernel, rfl, by decide +kernel⟩, by rfl, rfl, rfl⟩
theorem bd_need_text : BindS ["text"] d_need_text := ⟨rfl, fun _ _ _ _ _ _ us hl => match us, hl with | [_], _ => rfl⟩
theorem s_need_text : FnS hd f_need_text ["text"] d_need_text := ⟨⟨n_need_text, ⟨rfl, rfl, rfl, by decide +kernel, rfl, by decide +kernel, by decide +kernel⟩, by decide +kernel, rfl, by decide +kernel⟩, by rfl, rfl, rfl⟩
theorem bd_Question_init : BindS ["self", "form", "fact", "inner"] d_Question_init := ⟨rfl, fun _ _ _ _ _ _ us hl => match us, hl with | [_, _, _, _], _ => rfl⟩
theorem s_Question_init : FnS hd f_Question_init ["self", "form", "fact", "inner"] d_Question_init := ⟨⟨n_Question_init, ⟨rfl, rfl, rfl, by decide +kernel, rfl, by decide +kernel, by decide +kernel⟩, by decide +kernel, rfl, by decide +kernel⟩, by rfl, rfl, rfl⟩
theorem bd_QuestionReader_init : BindS ["self", "text"] d_QuestionReader_init := ⟨rfl, fun _ _ _ _ _ _ us hl => match us, hl with | [_, _], _ => rfl⟩
theorem s_QuestionReader_init : FnS hd f_QuestionReader_init ["self", "text"] d_QuestionReader_init := ⟨⟨n_QuestionReader_init, ⟨rfl, rfl, rfl, by decide +kernel, rfl, by decide +kernel, by decide +kernel⟩, by decide +kernel, rfl, by decide +kernel⟩, by rfl, rfl, rfl⟩
theorem bd_QuestionReader_either : BindS ["self"] d_QuestionReader_either := ⟨rfl, fun _ _ _ _ _ _ us hl => match us, hl with | [_], _ => rfl⟩
theorem s_QuestionReader_either : FnS hd f_QuestionReader_either ["self"] d_QuestionReader_either := ⟨⟨n_QuestionReader_either, ⟨rfl, rfl, rfl, by decide +kernel, rfl, by decide +kernel, by decide +kernel⟩, by decide +kernel, rfl, by decide +kernel⟩, by rfl, rfl, rfl⟩
theorem bd_QuestionReader_both : BindS ["self"] d_QuestionReader_both := ⟨rfl, fun _ _ _ _ _ _ us hl => match us, hl with | [_], _ => rfl⟩
theorem s_QuestionReader_both : FnS hd f_QuestionReader_both ["self"] d_QuestionReader_both := ⟨⟨n_QuestionReader_both, ⟨rfl, rfl, rfl, by decide +kernel, rfl, by decide +kernel, by decide +kernel⟩, by decide +kernel, rfl, by decide +kernel⟩, by rfl, rfl, rfl⟩
theorem bd_QuestionReader_single : BindS ["self"] d_QuestionReader_single := ⟨rfl, fun _ _ _ _ _ _ us hl => match us, hl with | [_], _ => rfl⟩
theorem s_QuestionReader_single : FnS hd f_QuestionReader_single ["self"] d_QuestionReader_single := ⟨⟨n_QuestionReader_single, ⟨rfl, rfl, rfl, by decide +kernel, rfl, by decide +kernel, by decide +kernel⟩, by decide +kernel, rfl, by decide +kernel⟩, by rfl, rfl, rfl⟩
theorem bd_QuestionReader_begin_group : BindS ["self"] d_QuestionReader_begin_group := ⟨rfl, fun _ _ _ _ _ _ us hl => match us, hl with | [_], _ => rfl⟩
theorem s_QuestionReader_begin_group : FnS hd f_QuestionReader_begin_group ["self"] d_QuestionReader_begin_group := ⟨⟨n_QuestionReader_begin_group, ⟨rfl, rfl, rfl, by decide +kernel, rfl, by decide +kernel, by decide +kernel⟩, by decide +kernel, rfl, by decide +kernel⟩, by rfl, rfl, rfl⟩
theorem bd_QuestionReader_end_group : BindS ["self"] d_QuestionReader_end_group := ⟨rfl, fun _ _ _ _ _ _ us hl => match us, hl with | [_], _ => rfl⟩
theorem s_QuestionReader_end_group : FnS hd f_QuestionReader_end_group ["self"] d_QuestionReader_end_group := ⟨⟨n_QuestionReader_end_group, ⟨rfl, rfl, rfl, by decide +kernel, rfl, by decide +kernel, by decide +kernel⟩, by decide +kernel, rfl, by decide +kernel⟩, by rfl, rfl, rfl⟩
theorem bd_QuestionReader_until : BindS ["self", "sign"] d_QuestionReader_until := ⟨rfl, fun _ _ _ _ _ _ us hl => match us, hl with | [_, _], _ => rfl⟩
theorem s_QuestionReader_until : FnS hd f_QuestionReader_until ["self", "sign"] d_QuestionReader_until := ⟨⟨n_QuestionReader_until, ⟨rfl, rfl, rfl, by decide +kernel, rfl, by decide +kernel, by decide +kernel⟩, by decide +kernel, rfl, by decide +kernel⟩, by rfl, rfl, rfl⟩
theorem bd_QuestionReader_ground : BindS ["self"] d_QuestionReader_ground := ⟨rfl, fun _ _ _ _ _ _ us hl => match us, hl with | [_], _ => rfl⟩
theorem s_QuestionReader_ground : FnS hd f_QuestionReader_ground ["self"] d_QuestionReader_ground := ⟨⟨n_QuestionReader_ground, ⟨rfl, rfl, rfl, by decide +kernel, rfl, by decide +kernel, by decide +kernel⟩, by decide +kernel, rfl, by decide +kernel⟩, by rfl, rfl, rfl⟩
theorem bd_wrapped : BindS ["forms", "question"] d_wrapped := ⟨rfl, fun _ _ _ _ _ _ us hl => match us, hl with | [_, _], _ => rfl⟩
theorem s_wrapped : FnS hd f_wrapped ["forms", "question"] d_wrapped := ⟨⟨n_wrapped, ⟨rfl, rfl, rfl, by decide +kernel, rfl, by decide +kernel, by decide +kernel⟩, by decide +kernel, rfl, by decide +kernel⟩, by rfl, rfl, rfl⟩
theorem bd_question_flaw : BindS ["text"] d_question_flaw := ⟨rfl, fun _ _ _ _ _ _ us hl => match us, hl with | [_], _ => rfl⟩
theorem s_question_flaw : FnS hd f_question_flaw ["text"] d_question_flaw := ⟨⟨n_question_flaw, ⟨rfl, rfl, rfl, by decide +kernel, rfl, by decide +kernel, by decide +kernel⟩, by decide +kernel, rfl, by decide +kernel⟩, by rfl, rfl, rfl⟩
theorem bd_written_question : BindS ["question", "level"] d_written_question := ⟨rfl, fun _ _ _ _ _ _ us hl => match us, hl with | [_, _], _ => rfl⟩
theorem s_written_question : FnS hd f_written_question ["question", "level"] d_written_question := ⟨⟨n_written_question, ⟨rfl, rfl, rfl, by decide +kernel, rfl, by decide +kernel, by decide +kernel⟩, by decide +kernel, rfl, by decide +kernel⟩, by rfl, rfl, rfl⟩
theorem bd_plain_question : BindS ["text"] d_plain_question := ⟨rfl, fun _ _ _ _ _ _ us hl => match us, hl with | [_], _ => rfl⟩
theorem s_plain_question : FnS hd f_plain_question ["text"] d_plain_question := ⟨⟨n_plain_question, ⟨rfl, rfl, rfl, by decide +kernel, rfl, by decide +kernel, by decide +kernel⟩, by decide +kernel, rfl, by decide +kernel⟩, by rfl, rfl, rfl⟩
theorem bd_L_taken : BindS ["row", "many"] d_L_taken := ⟨rfl, fun _ _ _ _ _ _ us hl => match us, hl with | [_, _], _ => rfl⟩
theorem s_L_taken : FnS hd f_L_taken ["row", "many"] d_L_taken := ⟨⟨n_L_taken, ⟨rfl, rfl, rfl, by decide +kernel, rfl, by decide +kernel, by decide +kernel⟩, by decide +kernel, rfl, by decide +kernel⟩, by rfl, rfl, rfl⟩
theorem bd_L_pick : BindS ["row", "some"] d_L_pick := ⟨rfl, fun _ _ _ _ _ _ us hl => match us, hl with | [_, _], _ => rfl⟩
theorem s_L_pick : FnS hd f_L_pick ["row", "some"] d_L_pick := ⟨⟨n_L_pick, ⟨rfl, rfl, rfl, by decide +kernel, rfl, by decide +kernel, by decide +kernel⟩, by decide +kernel, rfl, by decide +kernel⟩, by rfl, rfl, rfl⟩
theorem bd_L_refused : BindS ["call"] d_L_refused := ⟨rfl, fun _ _ _ _ _ _ us hl => match us, hl with | [_], _ => rfl⟩
theorem bd_L_alike : BindS ["found", "due"] d_L_alike := ⟨rfl, fun _ _ _ _ _ _ us hl => match us, hl with | [_, _], _ => rfl⟩
theorem s_L_alike : FnS hd f_L_alike ["found", "due"] d_L_alike := ⟨⟨n_L_alike, ⟨rfl, rfl, rfl, by decide +kernel, rfl, by decide +kernel, by decide +kernel⟩, by decide +kernel, rfl, by decide +kernel⟩, by rfl, rfl, rfl⟩
theorem bd_L_ask : BindS ["row", "facts", "deep"] d_L_ask := ⟨rfl, fun _ _ _ _ _ _ us hl => match us, hl with | [_, _, _], _ => rfl⟩
theorem s_L_ask : FnS hd f_L_ask ["row", "facts", "deep"] d_L_ask := ⟨⟨n_L_ask, ⟨rfl, rfl, rfl, by decide +kernel, rfl, by decide +kernel, by decide +kernel⟩, by decide +kernel, rfl, by decide +kernel⟩, by rfl, rfl, rfl⟩
theorem bd_L_asked : BindS ["tree", "level"] d_L_asked := ⟨rfl, fun _ _ _ _ _ _ us hl => match us, hl with | [_, _], _ => rfl⟩
theorem s_L_asked : FnS hd f_L_asked ["tree", "level"] d_L_asked := ⟨⟨n_L_asked, ⟨rfl, rfl, rfl, by decide +kernel, rfl, by decide +kernel, by decide +kernel⟩, by decide +kernel, rfl, by decide +kernel⟩, by rfl, rfl, rfl⟩
theorem bd_L_blank : BindS ["row"] d_L_blank := ⟨rfl, fun _ _ _ _ _ _ us hl => match us, hl with | [_], _ => rfl⟩
theorem s_L_blank : FnS hd f_L_blank ["row"] d_L_blank := ⟨⟨n_L_blank, ⟨rfl, rfl, rfl, by decide +kernel, rfl, by decide +kernel, by decide +kernel⟩, by decide +kernel, rfl, by decide +kernel⟩, by rfl, rfl, rfl⟩
theorem bd_L_text : BindS ["row", "tree", "level"] d_L_text := ⟨rfl, fun _ _ _ _ _ _ us hl => match us, hl with | [_, _, _], _ => rfl⟩
theorem s_L_text : FnS hd f_L_text ["row", "tree", "level"] d_L_text := ⟨⟨n_L_text, ⟨rfl, rfl, rfl, by decide +kernel, rfl, by decide +kernel, by decide +kernel⟩, by decide +kernel, rfl, by decide +kernel⟩, by rfl, rfl, rfl⟩
theorem bd_L_behind : BindS ["own", "at", "groups"] d_L_behind := ⟨rfl, fun _ _ _ _ _ _ us hl => match us, hl with | [_, _, _], _ => rfl⟩
theorem s_L_behind : FnS hd f_L_behind ["own", "at", "groups"] d_L_behind := ⟨⟨n_L_behind, ⟨rfl, rfl, rfl, by decide +kernel, rfl, by decide +kernel, by decide +kernel⟩, by decide +kernel, rfl, by decide +kernel⟩, by rfl, rfl, rfl⟩
theorem bd_L_ground : BindS ["own", "at", "groups"] d_L_ground := ⟨rfl, fun _ _ _ _ _ _ us hl => match us, hl with | [_, _, _], _ => rfl⟩
theorem s_L_ground : FnS hd f_L_ground ["own", "at", "groups"] d_L_ground := ⟨⟨n_L_ground, ⟨rfl, rfl, rfl, by decide +kernel, rfl, by decide +kernel, by decide +kernel⟩, by decide +kernel, rfl, by decide +kernel⟩, by rfl, rfl, rfl⟩
theorem bd_L_flaw : BindS ["text"] d_L_flaw := ⟨rfl, fun _ _ _ _ _ _ us hl => match us, hl with | [_], _ => rfl⟩
theorem s_L_flaw : FnS hd f_L_flaw ["text"] d_L_flaw := ⟨⟨n_L_flaw, ⟨rfl, rfl, rfl, by decide +kernel, rfl, by decide +kernel, by decide +kernel⟩, by decide +kernel, rfl, by decide +kernel⟩, by rfl, rfl, rfl⟩
theorem bd_L_near : BindS ["row"] d_L_near := ⟨rfl, fun _ _ _ _ _ _ us hl => match us, hl with | [_], _ => rfl⟩
theorem s_L_near : FnS hd f_L_near ["row"] d_L_near := ⟨⟨n_L_near, ⟨rfl, rfl, rfl, by decide +kernel, rfl, by decide +kernel, by decide +kernel⟩, by decide +kernel, rfl, by decide +kernel⟩, by rfl, rfl, rfl⟩
theorem bd_law : BindS ["script"] d_law := ⟨rfl, fun _ _ _ _ _ _ us hl => match us, hl with | [_], _ => rfl⟩
theorem s_law : LawS hd f_law "script" d_law := ⟨rfl, rfl, bd_law, by rfl, rfl, rfl, n_law, ⟨rfl, rfl, rfl, by decide +kernel, rfl, by decide +kernel, by decide +kernel⟩, by decide +kernel, rfl⟩
theorem r_ref : RefS hd d_L_refused := ⟨rfl, rfl, rfl, rfl, "call", "e", "BadArgument", "name", _, _, _, _, _, _, _, _, _, _, _, _, _, bd_L_refused, ⟨rfl, rfl, rfl, by decide +kernel, rfl, by decide +kernel, by decide +kernel⟩, rfl, rfl, rfl, rfl, rfl, by decide, rfl, by decide, by decide, by decide, by decide, by decide, by rfl⟩
theorem x_BadArgument_init : XfS hd 0 [21] d_BadArgument_init := .inl ⟨_, _, _, _, _, _, _, _, rfl, rfl, rfl, ⟨rfl, rfl, rfl, by decide +kernel, rfl, by decide +kernel, by decide +kernel⟩, by decide, by decide, rfl, rfl, by rfl⟩
theorem x_Flaw_init : XfS hd 1 [18, 19] d_Flaw_init := .inr ⟨_, _, _, _, _, _, _, _, _, _, _, _, _, _, _, rfl, rfl, rfl, rfl, ⟨rfl, rfl, rfl, by decide +kernel, rfl, by decide +kernel, by decide +kernel⟩, by decide, by decide, by decide, rfl, rfl, rfl, by rfl⟩
theorem mem_by {d : He.DefD} (i : Nat) (h : ds[i]? = some d) : d ∈ ds := List.mem_of_getElem? h
theorem hok : HOk hd ds where
  nnd := by decide +kernel
  fn := fun f fn hf => by
    have hf : (f, fn) ∈ [(2, f_need), (3, f_Wish_init), (4, f_Reader_init), (5, f_Reader_ahead), (6, f_Reader_fail), (7, f_Reader_take), (8, f_Reader_whole), (9, f_Reader_either), (10, f_Reader_both), (11, f_Reader_single), (12, f_Reader_ground), (13, f_need_text), (14, f_Question_init), (15, f_QuestionReader_init), (16, f_QuestionReader_either), (17, f_QuestionReader_both), (18, f_QuestionReader_single), (19, f_QuestionReader_begin_group), (20, f_QuestionReader_end_group), (21, f_QuestionReader_until), (22, f_QuestionReader_ground), (23, f_wrapped), (24, f_question_flaw), (25, f_written_question), (26, f_plain_question), (27, f_L_taken), (28, f_L_pick), (30, f_L_alike), (31, f_L_ask), (32, f_L_asked), (33, f_L_blank), (34, f_L_text), (35, f_L_behind), (36, f_L_ground), (37, f_L_flaw), (38, f_L_near)] := hf
    simp only [List.mem_cons, List.not_mem_nil, or_false, Prod.mk.injEq] at hf
    rcases hf with ⟨rfl, rfl⟩ | ⟨rfl, rfl⟩ | ⟨rfl, rfl⟩ | ⟨rfl, rfl⟩ | ⟨rfl, rfl⟩ | ⟨rfl, rfl⟩ | ⟨rfl, rfl⟩ | ⟨rfl, rfl⟩ | ⟨rfl, rfl⟩ | ⟨rfl, rfl⟩ | ⟨rfl, rfl⟩ | ⟨rfl, rfl⟩ | ⟨rfl, rfl⟩ | ⟨rfl, rfl⟩ | ⟨rfl, rfl⟩ | ⟨rfl, rfl⟩ | ⟨rfl, rfl⟩ | ⟨rfl, rfl⟩ | ⟨rfl, rfl⟩ | ⟨rfl, rfl⟩ | ⟨rfl, rfl⟩ | ⟨rfl, rfl⟩ | ⟨rfl, rfl⟩ | ⟨rfl, rfl⟩ | ⟨rfl, rfl⟩ | ⟨rfl, rfl⟩ | ⟨rfl, rfl⟩ | ⟨rfl, rfl⟩ | ⟨rfl, rfl⟩ | ⟨rfl, rfl⟩ | ⟨rfl, rfl⟩ | ⟨rfl, rfl⟩ | ⟨rfl, rfl⟩ | ⟨rfl, rfl⟩ | ⟨rfl, rfl⟩ | ⟨rfl, rfl⟩
    · exact ⟨d_need, mem_by 2 rfl, rfl, s_need, bd_need⟩
    · exact ⟨d_Wish_init, mem_by 3 rfl, rfl, s_Wish_init, bd_Wish_init⟩
    · exact ⟨d_Reader_init, mem_by 4 rfl, rfl, s_Reader_init, bd_Reader_init⟩
    · exact ⟨d_Reader_ahead, mem_by 5 rfl, rfl, s_Reader_ahead, bd_Reader_ahead⟩
    · exact ⟨d_Reader_fail, mem_by 6 rfl, rfl, s_Reader_fail, bd_Reader_fail⟩
    · exact ⟨d_Reader_take, mem_by 7 rfl, rfl, s_Reader_take, bd_Reader_take⟩
    · exact ⟨d_Reader_whole, mem_by 8 rfl, rfl, s_Reader_whole, bd_Reader_whole⟩
    · exact ⟨d_Reader_either, mem_by 9 rfl, rfl, s_Reader_either, bd_Reader_either⟩
    · exact ⟨d_Reader_both, mem_by 10 rfl, rfl, s_Reader_both, bd_Reader_both⟩
    · exact ⟨d_Reader_single, mem_by 11 rfl, rfl, s_Reader_single, bd_Reader_single⟩
    · exact ⟨d_Reader_ground, mem_by 12 rfl, rfl, s_Reader_ground, bd_Reader_ground⟩
    · exact ⟨d_need_text, mem_by 13 rfl, rfl, s_need_text, bd_need_text⟩
    · exact ⟨d_Question_init, mem_by 14 rfl, rfl, s_Question_init, bd_Question_init⟩
    · exact ⟨d_QuestionReader_init, mem_by 15 rfl, rfl, s_QuestionReader_init, bd_QuestionReader_init⟩
    · exact ⟨d_QuestionReader_either, mem_by 16 rfl, rfl, s_QuestionReader_either, bd_QuestionReader_either⟩
    · exact ⟨d_QuestionReader_both, mem_by 17 rfl, rfl, s_QuestionReader_both, bd_QuestionReader_both⟩
    · exact ⟨d_QuestionReader_single, mem_by 18 rfl, rfl, s_QuestionReader_single, bd_QuestionReader_single⟩
    · exact ⟨d_QuestionReader_begin_group, mem_by 19 rfl, rfl, s_QuestionReader_begin_group, bd_QuestionReader_begin_group⟩
    · exact ⟨d_QuestionReader_end_group, mem_by 20 rfl, rfl, s_QuestionReader_end_group, bd_QuestionReader_end_group⟩
    · exact ⟨d_QuestionReader_until, mem_by 21 rfl, rfl, s_QuestionReader_until, bd_QuestionReader_until⟩
    · exact ⟨d_QuestionReader_ground, mem_by 22 rfl, rfl, s_QuestionReader_ground, bd_QuestionReader_ground⟩
    · exact ⟨d_wrapped, mem_by 23 rfl, rfl, s_wrapped, bd_wrapped⟩
    · exact ⟨d_question_flaw, mem_by 24 rfl, rfl, s_question_flaw, bd_question_flaw⟩
    · exact ⟨d_written_question, mem_by 25 rfl, rfl, s_written_question, bd_written_question⟩
    · exact ⟨d_plain_question, mem_by 26 rfl, rfl, s_plain_question, bd_plain_question⟩
    · exact ⟨d_L_taken, mem_by 27 rfl, rfl, s_L_taken, bd_L_taken⟩
    · exact ⟨d_L_pick, mem_by 28 rfl, rfl, s_L_pick, bd_L_pick⟩
    · exact ⟨d_L_alike, mem_by 30 rfl, rfl, s_L_alike, bd_L_alike⟩
    · exact ⟨d_L_ask, mem_by 31 rfl, rfl, s_L_ask, bd_L_ask⟩
    · exact ⟨d_L_asked, mem_by 32 rfl, rfl, s_L_asked, bd_L_asked⟩
    · exact ⟨d_L_blank, mem_by 33 rfl, rfl, s_L_blank, bd_L_blank⟩
    · exact ⟨d_L_text, mem_by 34 rfl, rfl, s_L_text, bd_L_text⟩
    · exact ⟨d_L_behind, mem_by 35 rfl, rfl, s_L_behind, bd_L_behind⟩
    · exact ⟨d_L_ground, mem_by 36 rfl, rfl, s_L_ground, bd_L_ground⟩
    · exact ⟨d_L_flaw, mem_by 37 rfl, rfl, s_L_flaw, bd_L_flaw⟩
    · exact ⟨d_L_near, mem_by 38 rfl, rfl, s_L_near, bd_L_near⟩
  fns := fun f x hf => by
    have hlt := (List.getElem?_eq_some_iff.mp hf).1
    have hlt : f < 40 := hlt
    have key : ∀ f < 40, ∃ d, d ∈ ds ∧ d.at_ = hd.at_ f := fun f hf => by
      have : f ∈ List.range 40 := List.mem_range.mpr hf
      simp only [show List.range 40 = [0, 1, 2, 3, 4, 5, 6, 7, 8, 9, 10, 11, 12, 13, 14, 15, 16, 17, 18, 19, 20, 21, 22, 23, 24, 25, 26, 27, 28, 29, 30, 31, 32, 33, 34, 35, 36, 37, 38, 39] from by decide, List.mem_cons, List.not_mem_nil, or_false] at this
      rcases this with rfl | rfl | rfl | rfl | rfl | rfl | rfl | rfl | rfl | rfl | rfl | rfl | rfl | rfl | rfl | rfl | rfl | rfl | rfl | rfl | rfl | rfl | rfl | rfl | rfl | rfl | rfl | rfl | rfl | rfl | rfl | rfl | rfl | rfl | rfl | rfl | rfl | rfl | rfl | rfl
      · exact ⟨d_BadArgument_init, mem_by 0 rfl, rfl⟩
      · exact ⟨d_Flaw_init, mem_by 1 rfl, rfl⟩
      · exact ⟨d_need, mem_by 2 rfl, rfl⟩
      · exact ⟨d_Wish_init, mem_by 3 rfl, rfl⟩
      · exact ⟨d_Reader_init, mem_by 4 rfl, rfl⟩
      · exact ⟨d_Reader_ahead, mem_by 5 rfl, rfl⟩
      · exact ⟨d_Reader_fail, mem_by 6 rfl, rfl⟩
      · exact ⟨d_Reader_take, mem_by 7 rfl, rfl⟩
      · exact ⟨d_Reader_whole, mem_by 8 rfl, rfl⟩
      · exact ⟨d_Reader_either, mem_by 9 rfl, rfl⟩
      · exact ⟨d_Reader_both, mem_by 10 rfl, rfl⟩
      · exact ⟨d_Reader_single, mem_by 11 rfl, rfl⟩
      · exact ⟨d_Reader_ground, mem_by 12 rfl, rfl⟩
      · exact ⟨d_need_text, mem_by 13 rfl, rfl⟩
      · exact ⟨d_Question_init, mem_by 14 rfl, rfl⟩
      · exact ⟨d_QuestionReader_init, mem_by 15 rfl, rfl⟩
      · exact ⟨d_QuestionReader_either, mem_by 16 rfl, rfl⟩
      · exact ⟨d_QuestionReader_both, mem_by 17 rfl, rfl⟩
      · exact ⟨d_QuestionReader_single, mem_by 18 rfl, rfl⟩
      · exact ⟨d_QuestionReader_begin_group, mem_by 19 rfl, rfl⟩
      · exact ⟨d_QuestionReader_end_group, mem_by 20 rfl, rfl⟩
      · exact ⟨d_QuestionReader_until, mem_by 21 rfl, rfl⟩
      · exact ⟨d_QuestionReader_ground, mem_by 22 rfl, rfl⟩
      · exact ⟨d_wrapped, mem_by 23 rfl, rfl⟩
      · exact ⟨d_question_flaw, mem_by 24 rfl, rfl⟩
      · exact ⟨d_written_question, mem_by 25 rfl, rfl⟩
      · exact ⟨d_plain_question, mem_by 26 rfl, rfl⟩
      · exact ⟨d_L_taken, mem_by 27 rfl, rfl⟩
      · exact ⟨d_L_pick, mem_by 28 rfl, rfl⟩
      · exact ⟨d_L_refused, mem_by 29 rfl, rfl⟩
      · exact ⟨d_L_alike, mem_by 30 rfl, rfl⟩
      · exact ⟨d_L_ask, mem_by 31 rfl, rfl⟩
      · exact ⟨d_L_asked, mem_by 32 rfl, rfl⟩
      · exact ⟨d_L_blank, mem_by 33 rfl, rfl⟩
      · exact ⟨d_L_text, mem_by 34 rfl, rfl⟩
      · exact ⟨d_L_behind, mem_by 35 rfl, rfl⟩
      · exact ⟨d_L_ground, mem_by 36 rfl, rfl⟩
      · exact ⟨d_L_flaw, mem_by 37 rfl, rfl⟩
      · exact ⟨d_L_near, mem_by 38 rfl, rfl⟩
      · exact ⟨d_law, mem_by 39 rfl, rfl⟩
    exact key f hlt
  xf := fun c l hc => by
    have hc : (c, l) ∈ [(0, [21]), (1, [18, 19])] := hc
    simp only [List.mem_cons, List.not_mem_nil, or_false, Prod.mk.injEq] at hc
    rcases hc with ⟨rfl, rfl⟩ | ⟨rfl, rfl⟩
    · exact ⟨by decide, by decide, d_BadArgument_init, mem_by 0 rfl, rfl, x_BadArgument_init, bd_BadArgument_init⟩
    · exact ⟨by decide, by decide, d_Flaw_init, mem_by 1 rfl, rfl, x_Flaw_init, bd_Flaw_init⟩
  kb := fun f m ks hk => by
    have hk : (f, m, ks) ∈ ([(24, 0, ["text"]), (26, 0, ["text"])] : List (Nat × Nat × List Str)) := hk
    simp only [List.mem_cons, List.not_mem_nil, or_false, Prod.mk.injEq] at hk
    rcases hk with ⟨rfl, rfl, rfl⟩ | ⟨rfl, rfl, rfl⟩
    · exact ⟨d_question_flaw, mem_by 24 rfl, rfl, rfl, fun _ _ _ _ _ _ us ws h1 h2 => match us, ws, h1, h2 with | [], [_], _, _ => rfl⟩
    · exact ⟨d_plain_question, mem_by 26 rfl, rfl, rfl, fun _ _ _ _ _ _ us ws h1 h2 => match us, ws, h1, h2 with | [], [_], _, _ => rfl⟩
def loose : List Str := (["BadArgument", "Flaw", "need", "LETTERS", "DIGITS", "BOATS", "MOST_TEXT", "MOST_DEEP", "AT", "SAME", "NOT", "AND", "OR", "Wish", "Reader", "need_text", "FACT", "SOME", "ALL", "UNTIL", "STEPS", "SIGNS", "Question", "QuestionReader", "wrapped", "question_flaw", "written_question", "plain_question", "_law_taken", "_law_pick"] : List Str) ++ (["_law_refused", "_law_alike", "_law_ask", "_law_asked", "_law_blank", "_law_text", "_law_behind", "_law_ground", "_law_flaw", "_law_near"] : List Str)
abbrev Rw : PySem.W.OpenRow := PySem.W.OpenLaw.row PySem.Challenge.rw_ferriedover_k35_whole_questions_and_thei
def lawIx : Nat := 45
end P35

namespace P35
open PySem PySem.Spec PyProof.Rows L2 Mx Ms
abbrev hk : PySem.W.Hook := He.hookX 5 [] ds [] [("law", none)] (hB hd)
def ob (s : PySem.W.SharedT) : He.AlX := He.obsX 5 [] ds [] [("law", none)] (hB hd) (HandSHeadRun.getT s)
theorem ob_eq (s : PySem.W.SharedT) : ob s = hk.obs s.abs := He.obsX_eq (HandSHeadRun.getT_eq s)
theorem run (w : World) : HandSHeadRun.RunEq Rw (PySem.W.view Rw.prog [lawIx]) hk ob 4000 loose w := by
  intro os
  kernel_rfl
end P35

/-! Questions: a stack reader that makes the tree, in plain words. -/
namespace Q35
/-- tokens: codes and places -/
abbrev Tk := List (Nat × Nat)
def lit (s : String) : List Nat := s.toList.map Char.toNat
def mEnd : List Nat := [101, 120, 112, 101, 99, 116, 101, 100, 32, 116, 104, 101, 32, 101, 110, 100]
def mDeep : List Nat := [116, 104, 105, 115, 32, 105, 115, 32, 116, 111, 111, 32, 100, 101, 101, 112]
def mStep : List Nat := [101, 120, 112, 101, 99, 116, 101, 100, 32, 78, 44, 32, 70, 44, 32, 71, 32, 111, 114, 32, 40]
def mQ : List Nat := [101, 120, 112, 101, 99, 116, 101, 100, 32, 97, 32, 113, 117, 101, 115, 116, 105, 111, 110]
def mAS : List Nat := [101, 120, 112, 101, 99, 116, 101, 100, 32, 64, 32, 111, 114, 32, 61]
def mPl : List Nat := [101, 120, 112, 101, 99, 116, 101, 100, 32, 97, 32, 112, 108, 97, 99, 101]
def mNm : List Nat := [101, 120, 112, 101, 99, 116, 101, 100, 32, 97, 32, 110, 97, 109, 101]
def mU : List Nat := [101, 120, 112, 101, 99, 116, 101, 100, 32, 85]
def mCl : List Nat := [101, 120, 112, 101, 99, 116, 101, 100, 32, 41]
def names : List Nat := [97, 98, 99, 100, 101, 102, 103, 104, 105, 106, 88, 89, 90]
def digits : List Nat := [48, 49, 50, 51]
def steps : List Nat := [78, 70, 71]
inductive QT where
  | fact (s : List Nat)
  | op1 (f : List Nat) (q : QT)
  | op2 (f : List Nat) (a b : QT)
/-- what waits in a group: the left of |, the left of &, operators (the head is next to what comes) -/
structure Fr where
  ors : Option QT
  ands : Option QT
  fs : List (List Nat)
def F0 : Fr := ⟨none, none, []⟩
inductive Gk where
  | par (F : Fr)
  | u1 (s : Nat) (F : Fr)
  | u2 (s : Nat) (a : QT) (F : Fr)
inductive Sta where
  | ask (F : Fr)
  | behind (o : Option QT) (q : QT)
  | step (s : Nat) (F : Fr)
  | sign (n : Nat) (F : Fr)
  | place (n : Nat) (F : Fr)
  | name (n : Nat) (F : Fr)
def wrap : List (List Nat) → QT → QT
  | [], q => q
  | f :: fs, q => wrap fs (.op1 f q)
def orq : Option QT → QT → QT
  | none, q => q
  | some o, q => .op2 [124] o q
def andq : Option QT → QT → QT
  | none, q => q
  | some o, q => .op2 [38] o q
def fin (F : Fr) (q : QT) : Sta := .behind F.ors (andq F.ands (wrap F.fs q))
abbrev Flw := Nat × List Nat
def tStep (c p : Nat) : Sta → List Gk → Except Flw (Sta × List Gk)
  | .ask F, G => if c = 40 then (if G.length = 20 then .error (p, mDeep) else .ok (.ask F0, .par F :: G)) else if c = 69 ∨ c = 65 then .ok (.step c F, G) else if c = 126 then .ok (.ask { F with fs := [126] :: F.fs }, G) else if c ∈ names then .ok (.sign c F, G) else .error (p, mQ)
  | .behind o q, G => if c = 38 then .ok (.ask ⟨o, some q, []⟩, G) else if c = 124 then .ok (.ask ⟨some (orq o q), none, []⟩, G) else match G with
    | [] => .error (p, mEnd)
    | .u1 s F :: r => if c = 85 then .ok (.ask F0, .u2 s (orq o q) F :: r) else .error (p, mU)
    | .u2 s a F :: r => if c = 41 then .ok (fin F (.op2 [s, 85] a (orq o q)), r) else .error (p, mCl)
    | .par F :: r => if c = 41 then .ok (fin F (orq o q), r) else .error (p, mCl)
  | .step s F, G => if c = 40 then (if G.length = 20 then .error (p, mDeep) else .ok (.ask F0, .u1 s F :: G)) else if c ∈ steps then .ok (.ask { F with fs := [s, c] :: F.fs }, G) else .error (p, mStep)
  | .sign n F, G => if c = 64 then .ok (.place n F, G) else if c = 61 then .ok (.name n F, G) else .error (p, mAS)
  | .place n F, G => if c ∈ digits then .ok (fin F (.fact [n, 64, c]), G) else .error (p, mPl)
  | .name n F, G => if c ∈ names then .ok (fin F (.fact [n, 61, c]), G) else .error (p, mNm)
def tEnd (z : Nat) : Sta → List Gk → Except Flw QT
  | .ask _, _ => .error (z, mQ)
  | .behind o q, [] => .ok (orq o q)
  | .behind _ _, .u1 _ _ :: _ => .error (z, mU)
  | .behind _ _, _ => .error (z, mCl)
  | .step _ _, _ => .error (z, mStep)
  | .sign _ _, _ => .error (z, mAS)
  | .place _ _, _ => .error (z, mPl)
  | .name _ _, _ => .error (z, mNm)
def tRun (z : Nat) : Sta → List Gk → Tk → Except Flw QT
  | st, gs, [] => tEnd z st gs
  | st, gs, t :: r => match tStep t.1 t.2 st gs with
    | .error f => .error f
    | .ok x => tRun z x.1 x.2 r
section
variable {z : Nat} {st st' : Sta} {G G' : List Gk} {c p : Nat} {r ts : Tk} {f : Flw}
theorem run_ok (e : tStep c p st G = .ok (st', G')) : tRun z st G ((c, p) :: r) = tRun z st' G' r := by
  show (match tStep c p st G with
    | .error f => Except.error f
    | .ok x => tRun z x.1 x.2 r) = _
  rw [e]
theorem run_er (e : tStep c p st G = .error f) : tRun z st G ((c, p) :: r) = .error f := by
  show (match tStep c p st G with
    | .error f => Except.error f
    | .ok x => tRun z x.1 x.2 r) = _
  rw [e]
variable {F : Fr} {s n : Nat} {o : Option QT} {q : QT}
theorem s_open (hd : G.length ≠ 20) : tStep 40 p (.ask F) G = .ok (.ask F0, .par F :: G) := by
  simp only [tStep]
  rw [if_pos trivial, if_neg hd]
theorem s_deep (hd : G.length = 20) : tStep 40 p (.ask F) G = .error (p, mDeep) := by
  simp only [tStep]
  rw [if_pos trivial, if_pos hd]
theorem s_EA (hc : c = 69 ∨ c = 65) : tStep c p (.ask F) G = .ok (.step c F, G) := by
  simp only [tStep]
  rw [if_neg (by omega), if_pos hc]
theorem s_not : tStep 126 p (.ask F) G = .ok (.ask { F with fs := [126] :: F.fs }, G) := rfl
theorem s_nm (hc : c ∈ names) : tStep c p (.ask F) G = .ok (.sign c F, G) := by
  have h : ∀ x ∈ names, x ≠ 40 ∧ ¬(x = 69 ∨ x = 65) ∧ x ≠ 126 := by decide
  obtain ⟨h1, h2, h3⟩ := h c hc
  simp only [tStep]
  rw [if_neg h1, if_neg h2, if_neg h3, if_pos hc]
theorem s_q (h1 : c ≠ 40) (h2 : c ≠ 69) (h3 : c ≠ 65) (h4 : c ≠ 126) (hc : c ∉ names) : tStep c p (.ask F) G = .error (p, mQ) := by
  simp only [tStep]
  rw [if_neg h1, if_neg (by omega), if_neg h4, if_neg hc]
theorem s_uopen (hd : G.length ≠ 20) : tStep 40 p (.step s F) G = .ok (.ask F0, .u1 s F :: G) := by
  simp only [tStep]
  rw [if_pos trivial, if_neg hd]
theorem s_udeep (hd : G.length = 20) : tStep 40 p (.step s F) G = .error (p, mDeep) := by
  simp only [tStep]
  rw [if_pos trivial, if_pos hd]
theorem s_step (hc : c ∈ steps) : tStep c p (.step s F) G = .ok (.ask { F with fs := [s, c] :: F.fs }, G) := by
  have h : ∀ x ∈ steps, x ≠ 40 := by decide
  simp only [tStep]
  rw [if_neg (h c hc), if_pos hc]
theorem s_stepE (h1 : c ≠ 40) (hc : c ∉ steps) : tStep c p (.step s F) G = .error (p, mStep) := by
  simp only [tStep]
  rw [if_neg h1, if_neg hc]
theorem s_as64 : tStep 64 p (.sign n F) G = .ok (.place n F, G) := rfl
theorem s_as61 : tStep 61 p (.sign n F) G = .ok (.name n F, G) := rfl
theorem s_asE (hc : c ∉ [64, 61]) : tStep c p (.sign n F) G = .error (p, mAS) := by
  have h1 : c ≠ 64 := by intro e; exact hc (by rw [e]; decide)
  have h2 : c ≠ 61 := by intro e; exact hc (by rw [e]; decide)
  simp only [tStep]
  rw [if_neg h1, if_neg h2]
theorem s_pl (hc : c ∈ digits) : tStep c p (.place n F) G = .ok (fin F (.fact [n, 64, c]), G) := by
  simp only [tStep]
  rw [if_pos hc]
theorem s_plE (hc : c ∉ digits) : tStep c p (.place n F) G = .error (p, mPl) := by
  simp only [tStep]
  rw [if_neg hc]
theorem s_na (hc : c ∈ names) : tStep c p (.name n F) G = .ok (fin F (.fact [n, 61, c]), G) := by
  simp only [tStep]
  rw [if_pos hc]
theorem s_naE (hc : c ∉ names) : tStep c p (.name n F) G = .error (p, mNm) := by
  simp only [tStep]
  rw [if_neg hc]
theorem s_and : tStep 38 p (.behind o q) G = .ok (.ask ⟨o, some q, []⟩, G) := rfl
theorem s_or : tStep 124 p (.behind o q) G = .ok (.ask ⟨some (orq o q), none, []⟩, G) := rfl
/-- no joiner follows -/
def nj (ts : Tk) : Prop := ∀ c p r, ts = (c, p) :: r → c ≠ 38 ∧ c ≠ 124
theorem run_beh (hn : nj ts) : tRun z (.behind o q) G ts = tRun z (.behind none (orq o q)) G ts := by
  cases ts with
  | nil =>
    show tEnd z _ _ = tEnd z _ _
    cases G with
    | nil => rfl
    | cons g G => cases g <;> rfl
  | cons t r =>
    obtain ⟨c, p⟩ := t
    obtain ⟨h1, h2⟩ := hn c p r rfl
    have e : tStep c p (.behind o q) G = tStep c p (.behind none (orq o q)) G := by
      simp only [tStep]
      rw [if_neg h1, if_neg h1, if_neg h2, if_neg h2]
      cases G with
      | nil => rfl
      | cons g G => cases g <;> rfl
    show (match tStep c p (.behind o q) G with
      | .error f => Except.error f
      | .ok x => tRun z x.1 x.2 r) = (match tStep c p (.behind none (orq o q)) G with
      | .error f => Except.error f
      | .ok x => tRun z x.1 x.2 r)
    rw [e]
theorem s_cl {a : QT} : tStep 41 p (.behind none q) (.par F :: G) = .ok (fin F q, G) := rfl
theorem s_clE (h1 : c ≠ 38) (h2 : c ≠ 124) (h3 : c ≠ 41) : tStep c p (.behind o q) (.par F :: G) = .error (p, mCl) := by
  simp only [tStep]
  rw [if_neg h1, if_neg h2]
  exact if_neg h3
theorem s_cl2 {a : QT} : tStep 41 p (.behind none q) (.u2 s a F :: G) = .ok (fin F (.op2 [s, 85] a q), G) := rfl
theorem s_cl2E {a : QT} (h1 : c ≠ 38) (h2 : c ≠ 124) (h3 : c ≠ 41) : tStep c p (.behind o q) (.u2 s a F :: G) = .error (p, mCl) := by
  simp only [tStep]
  rw [if_neg h1, if_neg h2]
  exact if_neg h3
theorem s_U : tStep 85 p (.behind none q) (.u1 s F :: G) = .ok (.ask F0, .u2 s q F :: G) := rfl
theorem s_UE (h1 : c ≠ 38) (h2 : c ≠ 124) (h3 : c ≠ 85) : tStep c p (.behind o q) (.u1 s F :: G) = .error (p, mU) := by
  simp only [tStep]
  rw [if_neg h1, if_neg h2]
  exact if_neg h3
theorem s_end (h1 : c ≠ 38) (h2 : c ≠ 124) : tStep c p (.behind o q) [] = .error (p, mEnd) := by
  simp only [tStep]
  rw [if_neg h1, if_neg h2]
end
end Q35

/-! What must hold behind a run: walked forward, step by step. -/
namespace Mx
open PySem
def WpD {α : Type} (r : Rs α) (Q : α → AH → Prop) (X : Nat → Fs → AH → Prop) : Prop := match r with
  | .ok a h => Q a h
  | .ex c fs h => X c fs h
  | .no => False
structure Wp {α : Type} (r : Rs α) (Q : α → AH → Prop) (X : Nat → Fs → AH → Prop) : Prop where
  h : WpD r Q X
/-- no error -/
def nX : Nat → Fs → AH → Prop := fun _ _ _ => False
/-- two ways -/
abbrev brW (k : Bool) (A B : Prop) : Prop := match k with
  | true => A
  | false => B
/-- a value that must be there -/
abbrev optW {α : Type} (o : Option α) (K : α → Prop) : Prop := match o with
  | some a => K a
  | none => False
/-- a bound -/
inductive Sc (n : Nat) (K : Prop) : Prop where | mk (e : n ≤ SZ) (k : K) : Sc n K
/-- a side condition -/
inductive Gd (P : Prop) (K : Prop) : Prop where | mk (e : P) (k : K) : Gd P K
/-- a field -/
inductive LkF (h : AH) (l f : Nat) (K : D → Prop) : Prop where | mk {c : Nat} {fs : Fs} {d : D} (e : h[l]? = some (.ins c fs)) (ef : fget fs f = some d) (k : K d) : LkF h l f K
/-- an instance's class -/
inductive LkC (h : AH) (l : Nat) (K : Nat → Prop) : Prop where | mk {c : Nat} {fs : Fs} (e : h[l]? = some (.ins c fs)) (k : K c) : LkC h l K
/-- a list, read -/
inductive LkL (h : AH) (l : Nat) (K : List D → Prop) : Prop where | mk {xs : List D} (e : lstAt h l = some xs) (k : K xs) : LkL h l K
/-- a list that may change -/
inductive LkM (h : AH) (l : Nat) (K : List D → Prop) : Prop where | mk {xs : List D} (e : h[l]? = some (.lst xs)) (k : K xs) : LkM h l K
/-- what an option holds -/
inductive LkO {α : Type} (o : Option α) (K : α → Prop) : Prop where | mk {a : α} (e : o = some a) (k : K a) : LkO o K
section
variable {α β : Type} {r r' : Rs α} {f : α → AH → Rs β} {Q Q' : α → AH → Prop} {X X' : Nat → Fs → AH → Prop} {QB : β → AH → Prop} {a : α} {h h1 : AH} {c : Nat} {fs : Fs} {k : Bool} {A B : Rs α} {P : Prop} [Decidable P] {PA PB : Prop}
theorem w_ok (k : Q a h) : Wp (.ok a h) Q X := ⟨k⟩
theorem w_ex (k : X c fs h) : Wp (.ex c fs h : Rs α) Q X := ⟨k⟩
theorem w_bnd (k : Wp r (fun a h => Wp (f a h) QB X) X) : Wp (r.bnd f) QB X := by
  cases r with
  | ok a h => exact k.h
  | ex c fs h => exact ⟨k.h⟩
  | no => exact k.h.elim
theorem w_mono (k : Wp r Q X) (q : ∀ a h, Q a h → Q' a h) (x : ∀ c fs h, X c fs h → X' c fs h) : Wp r Q' X' := by
  cases r with
  | ok a h => exact ⟨q _ _ k.h⟩
  | ex c fs h => exact ⟨x _ _ _ k.h⟩
  | no => exact k.h.elim
theorem w_q (k : Wp r Q X) (q : ∀ a h, Q a h → Q' a h) : Wp r Q' X := w_mono k q fun _ _ _ x => x
theorem w_b2 (k : Wp r Q X) (q : ∀ a h, Q a h → Wp (f a h) QB X) : Wp (r.bnd f) QB X := w_bnd (w_q k q)
theorem w_use (k : Wp r Q nX) (q : ∀ a h, Q a h → Q' a h) : Wp r Q' X := w_mono k q fun _ _ _ z => z.elim
theorem w_inv (k : Wp r Q nX) : ∃ a h, r = .ok a h ∧ Q a h := by
  cases r with
  | ok a h => exact ⟨a, h, rfl, k.h⟩
  | ex c fs h => exact k.h.elim
  | no => exact k.h.elim
theorem w_eq (e : r = r') (k : Wp r' Q X) : Wp r Q X := e ▸ k
theorem w_eqo {h' : AH} (e : r = .ok a h') (k : Q a h') : Wp r Q X := e ▸ ⟨k⟩
theorem w_eqx {h' : AH} (e : r = .ex c fs h') (k : X c fs h') : Wp r Q X := e ▸ ⟨k⟩
theorem w_and {Q2 : α → AH → Prop} (k : Wp r Q X) (k2 : Wp r Q2 X) : Wp r (fun a h => Q a h ∧ Q2 a h) X := by
  cases r with
  | ok a h => exact ⟨k.h, k2.h⟩
  | ex c fs h => exact ⟨k.h⟩
  | no => exact k.h.elim
theorem w_opt {o : Option α} (e : o = some a) (k : Q a h) : Wp (optR o h) Q X := by rw [e]; exact ⟨k⟩
theorem w_optW {o : Option α} (k : optW o fun a => Q a h) : Wp (optR o h) Q X := by
  cases o with
  | none => exact k.elim
  | some a => exact ⟨k⟩
theorem br_if (a : k = true → PA) (b : k = false → PB) : brW k PA PB := by
  cases k
  · exact b rfl
  · exact a rfl
theorem br_T (e : k = true) (a : PA) : brW k PA PB := by rw [e]; exact a
theorem br_F (e : k = false) (b : PB) : brW k PA PB := by rw [e]; exact b
theorem br_dec (a : P → PA) (b : ¬P → PB) : brW (decide P) PA PB := br_if (fun e => a (of_decide_eq_true e)) (fun e => b (of_decide_eq_false e))
theorem br_ndec (a : ¬P → PA) (b : P → PB) : brW (!decide P) PA PB := br_if (fun e => a (by simpa using e)) (fun e => b (by simpa using e))
theorem br_R (b : brW k (Wp A Q X) (Wp B Q X)) : Wp (if k = true then A else B) Q X := by
  cases k
  · exact b
  · exact b
theorem br_mono {PA' PB' : Prop} (q : brW k PA PB) (a : PA → PA') (b : PB → PB') : brW k PA' PB' := by
  cases k
  · exact b q
  · exact a q
end
section
variable {F : Cf} {s : Sl} {h : AH} {Q : D → AH → Prop} {QL : List D → AH → Prop} {QB : Bool → AH → Prop} {QO : Option Int → AH → Prop} {QW : Wk → AH → Prop} {X : Nat → Fs → AH → Prop} {i j m c f l : Nat} {x : Str} {p p2 p3 p4 : Pos} {d : D} {a b e es ks la lo hi : E} {o : BO} {co : CO} {tg : Tg} {α : Type} {A B : Rs α} {QA : α → AH → Prop} {P : Prop} [Decidable P]
/-! operators -/
theorem w_iP (e : P) (a : Wp A QA X) : Wp (if P then A else B) QA X := by rw [if_pos e]; exact a
theorem w_iN (e : ¬P) (b : Wp B QA X) : Wp (if P then A else B) QA X := by rw [if_neg e]; exact b
theorem w_attL {fs : Fs} (e : h[l]? = some (.ins c fs)) (ef : fget fs f = some d) (k : Q d h) : Wp (attK f (.ref l) h) Q X := w_eqo (att_r e ef) k
theorem w_revL {xs : List D} (e : h[l]? = some (.lst xs)) (k : Q (.ref h.length) (h ++ [.lst xs.reverse])) : Wp (revop (.ref l) h) Q X := w_eqo (rev_r e) k
theorem w_mak {xs : List D} (e : F.ini c = some f) (em : Wp (F.mf f (.ref h.length :: xs) (h ++ [.ins c []])) (fun d h2 => d = .non ∧ Q (.ref h.length) h2) X) : Wp (makK1 F c xs h) Q X := by
  unfold makK1
  simp only [e]
  refine w_b2 em (fun a h k => ?_)
  obtain ⟨rfl, k⟩ := k
  exact ⟨k⟩
theorem w_addI {i j : Int} (k : Q (.int (i + j)) h) : Wp (binop .add (.int i) (.int j) h) Q X := ⟨k⟩
theorem w_subI {i j : Int} (k : Q (.int (i - j)) h) : Wp (binop .sub (.int i) (.int j) h) Q X := ⟨k⟩
theorem w_mulI {i j : Int} (e : (-(2 ^ 64) < i ∧ i < 2 ^ 64) ∨ (-(2 ^ 64) < j ∧ j < 2 ^ 64)) (k : Q (.int (i * j)) h) : Wp (binop .mul (.int i) (.int j) h) Q X := w_eqo (by rw [binop_mulI, if_pos e]) k
theorem w_fdivI {i j : Int} (e : 0 < j ∧ j < 1073741824) (k : Q (.int (i / j)) h) : Wp (binop .fdiv (.int i) (.int j) h) Q X := w_eqo (by rw [binop_fdivI, if_pos e]) k
theorem w_modI {i j : Int} (e : 0 < j) (k : Q (.int (i % j)) h) : Wp (binop .mod (.int i) (.int j) h) Q X := w_eqo (by rw [binop_modI, if_pos e]) k
theorem w_powI {i j : Int} (e : 0 ≤ j ∧ j ≤ 1000000 ∧ i.natAbs < 2 ^ 64) (k : Q (.int (i ^ j.toNat)) h) : Wp (binop .pow (.int i) (.int j) h) Q X := w_eqo (by rw [binop_powI, if_pos e]) k
theorem w_addS {a b : List Nat} (e : a.length + b.length ≤ SZ) (k : Q (.str (a ++ b)) h) : Wp (binop .add (.str a) (.str b) h) Q X := w_eqo (by rw [binop_addS, if_pos e]) k
theorem w_addT {a b : List D} (e : a.length + b.length ≤ SZ) (k : Q (.tup (a ++ b)) h) : Wp (binop .add (.tup a) (.tup b) h) Q X := w_eqo (by rw [binop_addT, if_pos e]) k
theorem w_addL {xs ys : List D} {m : Nat} (e1 : h[l]? = some (.lst xs)) (e2 : h[m]? = some (.lst ys)) (e : xs.length + ys.length ≤ SZ) (k : Q (.ref h.length) (h ++ [.lst (xs ++ ys)])) : Wp (binop .add (.ref l) (.ref m) h) Q X := w_eqo (by rw [binop_addL e1 e2, if_pos e]; rfl) k
theorem w_mulS {a : List Nat} {j : Int} (e : 0 ≤ j ∧ j ≤ 1000 ∧ a.length ≤ 1000) (k : Q (.str (rep a j.toNat)) h) : Wp (binop .mul (.str a) (.int j) h) Q X := w_eqo (by rw [binop_mulS, if_pos e]) k
theorem w_lt {i j : Int} (k : Q (.bl (decide (i < j))) h) : Wp (cmpR .lt (.int i) (.int j) h) Q X := ⟨k⟩
theorem w_le {i j : Int} (k : Q (.bl (decide (i ≤ j))) h) : Wp (cmpR .le (.int i) (.int j) h) Q X := ⟨k⟩
theorem w_gt {i j : Int} (k : Q (.bl (decide (j < i))) h) : Wp (cmpR .gt (.int i) (.int j) h) Q X := ⟨k⟩
theorem w_ge {i j : Int} (k : Q (.bl (decide (j ≤ i))) h) : Wp (cmpR .ge (.int i) (.int j) h) Q X := ⟨k⟩
theorem w_eqI {i j : Int} (k : Q (.bl (decide (i = j))) h) : Wp (cmpR .eq (.int i) (.int j) h) Q X := ⟨k⟩
theorem w_neI {i j : Int} (k : Q (.bl (!decide (i = j))) h) : Wp (cmpR .ne (.int i) (.int j) h) Q X := ⟨k⟩
theorem w_eqS {a b : List Nat} (k : Q (.bl (decide (a = b))) h) : Wp (cmpR .eq (.str a) (.str b) h) Q X := ⟨k⟩
theorem w_neS {a b : List Nat} (k : Q (.bl (!decide (a = b))) h) : Wp (cmpR .ne (.str a) (.str b) h) Q X := ⟨k⟩
theorem w_eqB {a b : Bool} (k : Q (.bl (a == b)) h) : Wp (cmpR .eq (.bl a) (.bl b) h) Q X := ⟨k⟩
theorem w_isB {a b : Bool} (k : Q (.bl (decide (a = b))) h) : Wp (cmpR .is (.bl a) (.bl b) h) Q X := ⟨k⟩
theorem w_isnB {a b : Bool} (k : Q (.bl (!decide (a = b))) h) : Wp (cmpR .isn (.bl a) (.bl b) h) Q X := ⟨k⟩
theorem w_isN {x : D} (k : Q (.bl (decide (x = .non))) h) : Wp (cmpR .is x .non h) Q X := w_eqo cmp_isN k
theorem w_isnN {x : D} (k : Q (.bl (!decide (x = .non))) h) : Wp (cmpR .isn x .non h) Q X := w_eqo cmp_isnN k
theorem w_inS {c : Nat} {b : List Nat} (k : Q (.bl (decide (c ∈ b))) h) : Wp (cmpR .inn (.str [c]) (.str b) h) Q X := ⟨k⟩
theorem w_ninS {c : Nat} {b : List Nat} (k : Q (.bl (!decide (c ∈ b))) h) : Wp (cmpR .nin (.str [c]) (.str b) h) Q X := ⟨k⟩
theorem eqd_str {a b : List Nat} : eqd (.str a) (.str b) = decide (a = b) := rfl
theorem any_str {x : List Nat} : ∀ (ys : List (List Nat)), ((ys.map D.str).any fun y => eqd y (.str x)) = decide (x ∈ ys)
  | [] => rfl
  | y :: ys => by
    have := any_str (x := x) ys
    rw [List.map_cons, List.any_cons, this, eqd_str, Bool.eq_iff_iff]
    simp only [Bool.or_eq_true, decide_eq_true_eq, List.mem_cons]
    constructor
    · rintro (h | h)
      · exact .inl h.symm
      · exact .inr h
    · rintro (h | h)
      · exact .inl h.symm
      · exact .inr h
theorem deps_str : ∀ (ys : List (List Nat)), deps (ys.map D.str) = some 0
  | [] => rfl
  | y :: ys => by
    show (match dep (.str y), deps (ys.map D.str) with
    | some a, some b => some (max a b)
    | _, _ => none) = _
    rw [deps_str ys]
    rfl
/-- a text among texts -/
theorem anyEq_str {x : List Nat} {ys : List (List Nat)} : anyEq (.str x) (ys.map .str) = some (decide (x ∈ ys)) := by
  show (match some 0, deps (ys.map D.str) with
    | some a, some b => if min a b ≤ 60 then some ((ys.map D.str).any fun y => eqd y (.str x)) else none
    | _, _ => none) = _
  rw [deps_str, any_str]
  rfl
theorem w_inT {x : List Nat} {ys : List D} (zs : List (List Nat)) (e : zs.map D.str = ys) (k : Q (.bl (decide (x ∈ zs))) h) : Wp (cmpR .inn (.str x) (.tup ys) h) Q X := by
  subst e
  refine w_eqo (a := .bl (decide (x ∈ zs))) (h' := h) ?_ k
  show optR ((anyEq (.str x) (zs.map .str)).map D.bl) h = _
  rw [anyEq_str]
  rfl
theorem w_ninT {x : List Nat} {ys : List D} (zs : List (List Nat)) (e : zs.map D.str = ys) (k : Q (.bl (!decide (x ∈ zs))) h) : Wp (cmpR .nin (.str x) (.tup ys) h) Q X := by
  subst e
  refine w_eqo (a := .bl (!decide (x ∈ zs))) (h' := h) ?_ k
  show optR (((anyEq (.str x) (zs.map .str)).map (!·)).map D.bl) h = _
  rw [anyEq_str]
  rfl
theorem w_isiS {t : Ty} {x : List Nat} (k : Q (.bl (t == .str)) h) : Wp (optR ((isi t (.str x) h).map .bl) h) Q X := ⟨k⟩
theorem w_isiI {t : Ty} {i : Int} (k : Q (.bl (t == .int)) h) : Wp (optR ((isi t (.int i) h).map .bl) h) Q X := ⟨k⟩
theorem w_isiB {t : Ty} {i : Bool} (k : Q (.bl (t == .int || t == .bool)) h) : Wp (optR ((isi t (.bl i) h).map .bl) h) Q X := ⟨k⟩
theorem w_isiT {t : Ty} {i : List D} (k : Q (.bl (t == .tup)) h) : Wp (optR ((isi t (.tup i) h).map .bl) h) Q X := ⟨k⟩
theorem w_isiN {t : Ty} (k : Q (.bl false) h) : Wp (optR ((isi t .non h).map .bl) h) Q X := ⟨k⟩
theorem w_ixL {xs : List D} {i : Int} (e : lstAt h l = some xs) (k : optW (ati xs i) fun d => Q d h) : Wp (ixop (.ref l) (.int i) h) Q X := by
  cases e2 : ati xs i with
  | none => rw [e2] at k; exact k.elim
  | some d => rw [e2] at k; exact w_eqo (ixL_r e e2) k
theorem w_ixT {xs : List D} {i : Int} (e2 : ati xs i = some d) (k : Q d h) : Wp (ixop (.tup xs) (.int i) h) Q X := w_eqo (ixT_r e2) k
theorem w_ixS {xs : List Nat} {i : Int} {c : Nat} (e1 : xs.length ≤ SZ) (e2 : ati xs i = some c) (k : Q (.str [c]) h) : Wp (ixop (.str xs) (.int i) h) Q X := w_eqo (ixS_r e1 e2) k
theorem w_slcS {z : List Nat} {lo hi : Option Int} (e : z.length ≤ SZ) (k : Q (.str (cutd z lo hi)) h) : Wp (slcop (.str z) lo hi h) Q X := w_eqo (if_pos e) k
theorem w_slcT {z : List D} {lo hi : Option Int} (k : Q (.tup (cutd z lo hi)) h) : Wp (slcop (.tup z) lo hi h) Q X := ⟨k⟩
theorem w_slcL {xs : List D} {lo hi : Option Int} (e : h[l]? = some (.lst xs)) (k : Q (.ref h.length) (h ++ [.lst (cutd xs lo hi)])) : Wp (slcop (.ref l) lo hi h) Q X := by
  refine w_eqo (a := .ref h.length) (h' := h ++ [.lst (cutd xs lo hi)]) ?_ k
  unfold slcop
  simp only [e]
  rfl
theorem w_lenL {xs : List D} (e : lstAt h l = some xs) (k : Q (.int xs.length) h) : Wp (b1op .len (.ref l) h) Q X := w_eqo (b1_lenA e) k
theorem w_lenS {z : List Nat} (e : z.length ≤ SZ) (k : Q (.int z.length) h) : Wp (b1op .len (.str z) h) Q X := w_eqo (by rw [b1_lenS, if_pos e]) k
theorem w_lenT {z : List D} (k : Q (.int z.length) h) : Wp (b1op .len (.tup z) h) Q X := ⟨k⟩
theorem w_int {i : Int} (k : Q (.int i) h) : Wp (b1op .int (.int i) h) Q X := ⟨k⟩
theorem w_tb {b : Bool} (k : QB b h) : Wp (truR h (.bl b)) QB X := ⟨k⟩
theorem w_tS {z : List Nat} (e : z.length ≤ SZ) (k : QB (!z.isEmpty) h) : Wp (truR h (.str z)) QB X := w_opt (if_pos e) k
theorem w_tT {z : List D} (k : QB (!z.isEmpty) h) : Wp (truR h (.tup z)) QB X := ⟨k⟩
theorem tru_L {xs : List D} (e : lstAt h l = some xs) : tru h (.ref l) = some (!xs.isEmpty) := by
  unfold lstAt at e
  show (match h[l]? with
    | some (.lst xs) => some (!xs.isEmpty)
    | some (.frz xs) => some (!xs.isEmpty)
    | some (.dic kvs) => some (!kvs.isEmpty)
    | _ => none) = _
  split at e
  · rename_i ys hy; cases e; rw [hy]
  · rename_i ys hy; cases e; rw [hy]
  · cases e
theorem w_tL {xs : List D} (e : lstAt h l = some xs) (k : QB (!xs.isEmpty) h) : Wp (truR h (.ref l)) QB X := w_opt (tru_L e) k
theorem w_seqL {xs : List D} (e : lstAt h l = some xs) (k : QW (xs, some (l, xs)) h) : Wp (optR (seqop (.ref l) h) h) QW X := w_eqo (seq_r e) k
theorem w_seqS {xs : List Nat} (k : QW (chars xs, none) h) : Wp (optR (seqop (.str xs) h) h) QW X := ⟨k⟩
theorem w_seqT {xs : List D} (k : QW (xs, none) h) : Wp (optR (seqop (.tup xs) h) h) QW X := ⟨k⟩
theorem w_enumL {xs : List D} (e : lstAt h l = some xs) (k : QW (enumF 0 xs, some (l, xs)) h) : Wp (optR ((seqop (.ref l) h).map fun w => (enumF 0 w.1, w.2)) h) QW X := by
  refine w_opt (a := (enumF 0 xs, some (l, xs))) ?_ k
  show (((lstAt h l).map fun xs => ((xs, some (l, xs)) : Wk)).map fun w => ((enumF 0 w.1, w.2) : Wk)) = _
  rw [e]
  rfl
theorem w_enumS {xs : List Nat} (k : QW (enumF 0 (chars xs), none) h) : Wp (optR ((seqop (.str xs) h).map fun w => (enumF 0 w.1, w.2)) h) QW X := ⟨k⟩
theorem w_rng {j : Int} (e : smallI j = true) (k : QW (rngF 0 j.toNat, none) h) : Wp (optR (rng1 (.int j)) h) QW X := w_opt (if_pos e) k
theorem w_app {xs : List D} {y : D} (e : h[l]? = some (.lst xs)) (hl : xs.length < SZ) (k : Q .non (put h l (.lst (xs ++ [y])))) : Wp (bmop .append (.ref l) [y] h) Q X := w_eqo (app_r e hl) k
theorem w_extL {xs ys : List D} (e : h[l]? = some (.lst xs)) (hl : xs.length + ys.length ≤ SZ) (k : Q .non (put h l (.lst (xs ++ ys)))) : Wp (extop (.ref l) ys h) Q X := by
  refine w_eqo (a := .non) (h' := put h l (.lst (xs ++ ys))) ?_ k
  show (match h[l]? with
    | some (.lst xs) => if xs.length + ys.length ≤ SZ then Rs.ok D.non (put h l (.lst (xs ++ ys))) else .no
    | _ => .no) = _
  rw [e]
  exact if_pos hl
theorem strs_map : ∀ (ys : List (List Nat)), strsD (ys.map D.str) = some ys
  | [] => rfl
  | y :: ys => by
    show (strsD (ys.map D.str)).map (y :: ·) = _
    rw [strs_map ys]
    rfl
theorem w_joinS {z : List Nat} {xs : List D} (ys : List (List Nat)) (e : ys.map D.str = xs) (hl : lens ys + z.length * ys.length ≤ SZ) (k : Q (.str (joinT z ys)) h) : Wp (joinop (.str z) xs h) Q X := by
  subst e
  refine w_eqo (a := .str (joinT z ys)) (h' := h) ?_ k
  show (match strsD (ys.map D.str) with
    | some ys => if lens ys + z.length * ys.length ≤ SZ then Rs.ok (D.str (joinT z ys)) h else .no
    | none => .no) = _
  rw [strs_map]
  exact if_pos hl
theorem lstQ_L {xs : List D} (e : h[l]? = some (.lst xs)) : lstQ h (.ref l) = true := lstQ_r e
theorem bmty_app {xs : List D} (e : h[l]? = some (.lst xs)) : bmty .append h (.ref l) = true := lstQ_r e
end
end Mx

namespace Mx
open PySem
/-! what must hold, reckoned from the syntax -/
abbrev gdW (b : Bool) (K : Prop) : Prop := match b with
  | true => K
  | false => False
abbrev ScW (n : Nat) (K : Prop) : Prop := gdW (Nat.ble n SZ) K
theorem sc_mk {n : Nat} {K : Prop} (e : n ≤ SZ) (k : K) : gdW (Nat.ble n SZ) K := by rw [Nat.ble_eq_true_of_le e]; exact k
theorem ScW.le {n : Nat} {K : Prop} (k : ScW n K) : n ≤ SZ ∧ K := by
  unfold ScW at k
  cases e : Nat.ble n SZ with
  | true => rw [e] at k; exact ⟨Nat.le_of_ble_eq_true e, k⟩
  | false => rw [e] at k; exact k.elim
theorem gd_mk {b : Bool} {K : Prop} (e : b = true) (k : K) : gdW b K := by rw [e]; exact k
theorem gdW.t {b : Bool} {K : Prop} (k : gdW b K) : b = true ∧ K := by
  cases b with
  | true => exact ⟨rfl, k⟩
  | false => exact k.elim
theorem opt_mk {α : Type} {o : Option α} {a : α} {K : α → Prop} (e : o = some a) (k : K a) : optW o K := by rw [e]; exact k
theorem optW.t {α : Type} {o : Option α} {K : α → Prop} (k : optW o K) : ∃ a, o = some a ∧ K a := by
  cases o with
  | none => exact k.elim
  | some a => exact ⟨a, rfl, k⟩
abbrev Qt (α : Type) := α → AH → Prop
abbrev Xt := Nat → Fs → AH → Prop
def isN : D → Bool
  | .non => true
  | _ => false
def truW (h : AH) (x : D) (K : Bool → Prop) : Prop := match x with
  | .bl b => K b
  | .int i => K (i != 0)
  | .non => K false
  | .str z => ScW z.length (K (!z.isEmpty))
  | .tup xs => K (!xs.isEmpty)
  | .ref l => LkO (tru h (.ref l)) K
theorem truW.t {h : AH} {x : D} {K : Bool → Prop} (k : truW h x K) : ∃ b, tru h x = some b ∧ K b := by
  cases x with
  | bl b => exact ⟨_, rfl, k⟩
  | int i => exact ⟨_, rfl, k⟩
  | non => exact ⟨_, rfl, k⟩
  | str z => exact ⟨_, if_pos (ScW.le k).1, (ScW.le k).2⟩
  | tup xs => exact ⟨_, rfl, k⟩
  | ref l => obtain ⟨e, k⟩ := k; exact ⟨_, e, k⟩
theorem truW_ok {h : AH} {x : D} {Q : Qt Bool} {X : Xt} (k : truW h x fun b => Q b h) : Wp (truR h x) Q X := by
  obtain ⟨b, e, k⟩ := k.t
  exact w_opt e k
theorem w_tru2 {α : Type} {h : AH} {x : D} {K : Bool → Prop} {f : Bool → AH → Rs α} {Q : Qt α} {X : Xt} (k : truW h x K) (q : ∀ b, K b → Wp (f b h) Q X) : Wp ((truR h x).bnd f) Q X := by
  obtain ⟨b, e, k⟩ := k.t
  exact w_bnd (w_opt e (q b k))
def binW (o : BO) (x y : D) (h : AH) (Q : Qt D) (X : Xt) : Prop := match x with
  | .int i => match y with
    | .int j => match o with
      | .add => Q (.int (i + j)) h
      | .sub => Q (.int (i - j)) h
      | .mul => Gd ((-(2 ^ 64) < i ∧ i < 2 ^ 64) ∨ (-(2 ^ 64) < j ∧ j < 2 ^ 64)) (Q (.int (i * j)) h)
      | .fdiv => Gd (0 < j ∧ j < 1073741824) (Q (.int (i / j)) h)
      | .mod => Gd (0 < j) (Q (.int (i % j)) h)
      | .pow => Gd (0 ≤ j ∧ j ≤ 1000000 ∧ i.natAbs < 2 ^ 64) (Q (.int (i ^ j.toNat)) h)
    | y => Wp (binop o (.int i) y h) Q X
  | .str a => match y with
    | .str b => match o with
      | .add => ScW (a.length + b.length) (Q (.str (a ++ b)) h)
      | o => Wp (binop o (.str a) (.str b) h) Q X
    | .int j => match o with
      | .mul => Gd (0 ≤ j ∧ j ≤ 1000 ∧ a.length ≤ 1000) (Q (.str (rep a j.toNat)) h)
      | o => Wp (binop o (.str a) (.int j) h) Q X
    | y => Wp (binop o (.str a) y h) Q X
  | .tup a => match y with
    | .tup b => match o with
      | .add => ScW (a.length + b.length) (Q (.tup (a ++ b)) h)
      | o => Wp (binop o (.tup a) (.tup b) h) Q X
    | y => Wp (binop o (.tup a) y h) Q X
  | .ref a => match y with
    | .ref b => match o with
      | .add => LkM h a fun xs => LkM h b fun ys => ScW (xs.length + ys.length) (Q (.ref h.length) (h ++ [.lst (xs ++ ys)]))
      | o => Wp (binop o (.ref a) (.ref b) h) Q X
    | y => Wp (binop o (.ref a) y h) Q X
  | x => Wp (binop o x y h) Q X
theorem binW_ok {o : BO} {x y : D} {h : AH} {Q : Qt D} {X : Xt} (k : binW o x y h Q X) : Wp (binop o x y h) Q X := by
  unfold binW at k
  split at k
  · split at k
    · cases o
      · exact w_addI k
      · exact w_subI k
      · exact w_mulI k.1 k.2
      · exact w_fdivI k.1 k.2
      · exact w_modI k.1 k.2
      · exact w_powI k.1 k.2
    · exact k
  · split at k
    · split at k
      · exact w_addS (ScW.le k).1 (ScW.le k).2
      · exact k
    · split at k
      · exact w_mulS k.1 k.2
      · exact k
    · exact k
  · split at k
    · split at k
      · exact w_addT (ScW.le k).1 (ScW.le k).2
      · exact k
    · exact k
  · split at k
    · split at k
      · obtain ⟨e1, e2, k⟩ := k; exact w_addL e1 e2 (ScW.le k).1 (ScW.le k).2
      · exact k
    · exact k
  · exact k
theorem isN_eq {x : D} : decide (x = .non) = isN x := by cases x <;> rfl
def in1W (o : CO) (n : Bool) (z b : List Nat) (h : AH) (Q : Qt D) (X : Xt) : Prop := match z with
  | [c] => match n with
    | true => Q (.bl (!decide (c ∈ b))) h
    | false => Q (.bl (decide (c ∈ b))) h
  | z => Wp (cmpR o (.str z) (.str b) h) Q X
def inW (o : CO) (n : Bool) (x y : D) (h : AH) (Q : Qt D) (X : Xt) : Prop := match y with
  | .str b => match x with
    | .str z => in1W o n z b h Q X
    | x => Wp (cmpR o x (.str b) h) Q X
  | y => Wp (cmpR o x y h) Q X
def isW (o : CO) (n : Bool) (x y : D) (h : AH) (Q : Qt D) (X : Xt) : Prop := match y with
  | .non => match n with
    | true => Q (.bl (!isN x)) h
    | false => Q (.bl (isN x)) h
  | .bl b => match x with
    | .bl a => match n with
      | true => Q (.bl (!decide (a = b))) h
      | false => Q (.bl (decide (a = b))) h
    | x => Wp (cmpR o x (.bl b) h) Q X
  | y => Wp (cmpR o x y h) Q X
def cm2W (o : CO) (x y : D) (h : AH) (Q : Qt D) (X : Xt) : Prop := match x with
  | .int i => match y with
    | .int j => match o with
      | .lt => Q (.bl (decide (i < j))) h
      | .le => Q (.bl (decide (i ≤ j))) h
      | .gt => Q (.bl (decide (j < i))) h
      | .ge => Q (.bl (decide (j ≤ i))) h
      | .eq => Q (.bl (decide (i = j))) h
      | .ne => Q (.bl (!decide (i = j))) h
      | o => Wp (cmpR o (.int i) (.int j) h) Q X
    | y => Wp (cmpR o (.int i) y h) Q X
  | .str i => match y with
    | .str j => match o with
      | .eq => Q (.bl (decide (i = j))) h
      | .ne => Q (.bl (!decide (i = j))) h
      | o => Wp (cmpR o (.str i) (.str j) h) Q X
    | y => Wp (cmpR o (.str i) y h) Q X
  | .bl i => match y with
    | .bl j => match o with
      | .eq => Q (.bl (i == j)) h
      | o => Wp (cmpR o (.bl i) (.bl j) h) Q X
    | y => Wp (cmpR o (.bl i) y h) Q X
  | x => Wp (cmpR o x y h) Q X
def cmpW (o : CO) (x y : D) (h : AH) (Q : Qt D) (X : Xt) : Prop := match o with
  | .inn => inW .inn false x y h Q X
  | .nin => inW .nin true x y h Q X
  | .is => isW .is false x y h Q X
  | .isn => isW .isn true x y h Q X
  | o => cm2W o x y h Q X
theorem inW_ok {o : CO} {n : Bool} {x y : D} {h : AH} {Q : Qt D} {X : Xt} (e : o = bif n then .nin else .inn) (k : inW o n x y h Q X) : Wp (cmpR o x y h) Q X := by
  unfold inW at k
  split at k
  · split at k
    · unfold in1W at k
      split at k
      · cases n <;> (subst e; exact ⟨k⟩)
      · exact k
    · exact k
  · exact k
theorem isW_ok {o : CO} {n : Bool} {x y : D} {h : AH} {Q : Qt D} {X : Xt} (e : o = bif n then .isn else .is) (k : isW o n x y h Q X) : Wp (cmpR o x y h) Q X := by
  unfold isW at k
  split at k
  · cases n
    · subst e; exact w_isN (isN_eq ▸ k)
    · subst e; exact w_isnN (isN_eq ▸ k)
  · split at k
    · cases n <;> (subst e; exact ⟨k⟩)
    · exact k
  · exact k
theorem cm2W_ok {o : CO} {x y : D} {h : AH} {Q : Qt D} {X : Xt} (k : cm2W o x y h Q X) : Wp (cmpR o x y h) Q X := by
  unfold cm2W at k
  split at k
  · split at k
    · split at k
      all_goals first
        | exact k
        | exact ⟨k⟩
    · exact k
  · split at k
    · split at k
      all_goals first
        | exact k
        | exact ⟨k⟩
    · exact k
  · split at k
    · split at k
      all_goals first
        | exact k
        | exact ⟨k⟩
    · exact k
  · exact k
theorem cmpW_ok {o : CO} {x y : D} {h : AH} {Q : Qt D} {X : Xt} (k : cmpW o x y h Q X) : Wp (cmpR o x y h) Q X := by
  cases o with
  | inn => exact inW_ok (n := false) rfl k
  | nin => exact inW_ok (n := true) rfl k
  | is => exact isW_ok (n := false) rfl k
  | isn => exact isW_ok (n := true) rfl k
  | _ => exact cm2W_ok k
def attW (f : Nat) (x : D) (h : AH) (Q : Qt D) : Prop := match x with
  | .ref l => LkF h l f fun d => Q d h
  | _ => False
theorem attW_ok {f : Nat} {x : D} {h : AH} {Q : Qt D} {X : Xt} (k : attW f x h Q) : Wp (attK f x h) Q X := by
  cases x with
  | ref l => obtain ⟨e, ef, k⟩ := k; exact w_attL e ef k
  | _ => exact k.elim
def ixW (x i : D) (h : AH) (Q : Qt D) (X : Xt) : Prop := match i with
  | .int i => match x with
    | .str z => ScW z.length (optW (ati z i) fun c => Q (.str [c]) h)
    | .tup xs => optW (ati xs i) fun d => Q d h
    | x => Wp (ixop x (.int i) h) Q X
  | i => Wp (ixop x i h) Q X
theorem ixW_ok {x y : D} {h : AH} {Q : Qt D} {X : Xt} (k : ixW x y h Q X) : Wp (ixop x y h) Q X := by
  unfold ixW at k
  split at k
  · split at k
    · obtain ⟨c, e, k2⟩ := (ScW.le k).2.t; exact w_ixS (ScW.le k).1 e k2
    · obtain ⟨c, e, k2⟩ := k.t; exact w_ixT e k2
    · exact k
  · exact k
def slcW (x : D) (lo hi : Option Int) (h : AH) (Q : Qt D) (X : Xt) : Prop := match x with
  | .str z => ScW z.length (Q (.str (cutd z lo hi)) h)
  | .tup xs => Q (.tup (cutd xs lo hi)) h
  | x => Wp (slcop x lo hi h) Q X
theorem slcW_ok {x : D} {lo hi : Option Int} {h : AH} {Q : Qt D} {X : Xt} (k : slcW x lo hi h Q X) : Wp (slcop x lo hi h) Q X := by
  unfold slcW at k
  split at k
  · exact w_slcS (ScW.le k).1 (ScW.le k).2
  · exact ⟨k⟩
  · exact k
def b1W (b : B1) (x : D) (h : AH) (Q : Qt D) (X : Xt) : Prop := match b with
  | .len => match x with
    | .str z => ScW z.length (Q (.int z.length) h)
    | .tup z => Q (.int z.length) h
    | x => Wp (b1op .len x h) Q X
  | .int => match x with
    | .int i => Q (.int i) h
    | x => Wp (b1op .int x h) Q X
  | b => Wp (b1op b x h) Q X
theorem b1W_ok {b : B1} {x : D} {h : AH} {Q : Qt D} {X : Xt} (k : b1W b x h Q X) : Wp (b1op b x h) Q X := by
  unfold b1W at k
  split at k
  · split at k
    · exact w_lenS (ScW.le k).1 (ScW.le k).2
    · exact ⟨k⟩
    · exact k
  · split at k
    · exact ⟨k⟩
    · exact k
  · exact k
def isiW (t : Ty) (x : D) (h : AH) (Q : Qt D) : Prop := match x with
  | .ref l => LkO (isi t (.ref l) h) fun b => Q (.bl b) h
  | x => optW (isi t x h) fun b => Q (.bl b) h
theorem isiW_ok {t : Ty} {x : D} {h : AH} {Q : Qt D} {X : Xt} (k : isiW t x h Q) : Wp (optR ((isi t x h).map .bl) h) Q X := by
  unfold isiW at k
  split at k
  · obtain ⟨e, k⟩ := k; exact w_opt (by rw [e]; rfl) k
  · obtain ⟨b, e, k⟩ := k.t; exact w_opt (by rw [e]; rfl) k
def seqW (x : D) (h : AH) (Q : Qt Wk) : Prop := match x with
  | .tup xs => Q (xs, none) h
  | .str z => Q (chars z, none) h
  | .ref l => LkL h l fun xs => Q (xs, some (l, xs)) h
  | _ => False
theorem seqW_ok {x : D} {h : AH} {Q : Qt Wk} {X : Xt} (k : seqW x h Q) : Wp (optR (seqop x h) h) Q X := by
  cases x with
  | tup xs => exact ⟨k⟩
  | str z => exact ⟨k⟩
  | ref l => obtain ⟨e, k⟩ := k; exact w_seqL e k
  | _ => exact k.elim
theorem enumW_ok {x : D} {h : AH} {Q : Qt Wk} {X : Xt} (k : seqW x h fun w h => Q (enumF 0 w.1, w.2) h) : Wp (optR ((seqop x h).map fun w => (enumF 0 w.1, w.2)) h) Q X := by
  cases x with
  | tup xs => exact ⟨k⟩
  | str z => exact ⟨k⟩
  | ref l => obtain ⟨e, k⟩ := k; exact w_enumL e k
  | _ => exact k.elim
def valW (x : D) (h : AH) (Q : Qt (List D)) : Prop := match x with
  | .tup xs => Q xs h
  | .ref l => LkL h l fun xs => Q xs h
  | _ => False
theorem valW_ok {x : D} {h : AH} {Q : Qt (List D)} {X : Xt} (k : valW x h Q) : Wp (optR (valop x h) h) Q X := by
  cases x with
  | tup xs => exact ⟨k⟩
  | ref l => obtain ⟨e, k⟩ := k; exact w_opt e k
  | _ => exact k.elim
def refW (x : D) (h : AH) (Q : Qt (List D)) : Prop := match x with
  | .ref l => LkL h l fun xs => Q xs h
  | _ => False
theorem refW_ok {x : D} {h : AH} {Q : Qt (List D)} {X : Xt} (k : refW x h Q) : Wp (optR (refop x h) h) Q X := by
  cases x with
  | ref l => obtain ⟨e, k⟩ := k; exact w_opt e k
  | _ => exact k.elim
def lisW (x : D) (h : AH) (Q : Qt (List D)) : Prop := match x with
  | .tup xs => Q xs h
  | .str z => ScW z.length (Q (chars z) h)
  | .ref l => LkO (listop (.ref l) h) fun xs => Q xs h
  | _ => False
theorem lisW_ok {x : D} {h : AH} {Q : Qt (List D)} {X : Xt} (k : lisW x h Q) : Wp (optR (listop x h) h) Q X := by
  cases x with
  | tup xs => exact ⟨k⟩
  | str z => exact w_opt (if_pos (ScW.le k).1) (ScW.le k).2
  | ref l => obtain ⟨e, k⟩ := k; exact w_opt e k
  | _ => exact k.elim
def rngW (x : D) (K : Wk → Prop) : Prop := match x with
  | .int j => Gd (smallI j = true) (K (rngF 0 j.toNat, none))
  | _ => False
theorem rngW.t {x : D} {K : Wk → Prop} (k : rngW x K) : optW (rng1 x) K := by
  cases x with
  | int j =>
    obtain ⟨e, k⟩ := k
    unfold rng1
    simp only [e, if_true]
    exact k
  | _ => exact k.elim
def rg2W (x y : D) (K : Wk → Prop) : Prop := match x with
  | .int i => match y with
    | .int j => Gd ((smallI i && smallI j) = true) (K (rngF i (j - i).toNat, none))
    | _ => False
  | _ => False
theorem rg2W.t {x y : D} {K : Wk → Prop} (k : rg2W x y K) : optW (rng2 x y) K := by
  cases x with
  | int i => cases y with
    | int j =>
      obtain ⟨e, k⟩ := k
      unfold rng2
      simp only [e, if_true]
      exact k
    | _ => exact k.elim
  | _ => exact k.elim
def intW (x : D) (K : Int → Prop) : Prop := match x with
  | .int i => K i
  | _ => False
mutual
def evW (F : Cf) : E → Sl → AH → Qt D → Xt → Prop
  | .var i _ _, s, h, Q, X => optW (sget s i) fun d => Q d h
  | .cst d _, s, h, Q, X => Q d h
  | .glo d _ _, s, h, Q, X => Q d h
  | .bin o a b _, s, h, Q, X => evW F a s h (fun x h1 => evW F b s h1 (fun y h2 => binW o x y h2 Q X) X) X
  | .neg a _, s, h, Q, X => evW F a s h (fun x h1 => intW x fun i => Q (.int (-i)) h1) X
  | .not a _, s, h, Q, X => evW F a s h (fun x h1 => truW h1 x fun b => Q (.bl (!b)) h1) X
  | .cmp o a b _, s, h, Q, X => evW F a s h (fun x h1 => evW F b s h1 (fun y h2 => cmpW o x y h2 Q X) X) X
  | .cmp2 o o' a b c _, s, h, Q, X => evW F a s h (fun x h1 => evW F b s h1 (fun y h2 => cmpW o x y h2 (fun k h3 => truW h3 k fun k => brW k (evW F c s h3 (fun z h4 => cmpW o' y z h4 Q X) X) (Q (.bl false) h3)) X) X) X
  | .bo an a r _, s, h, Q, X => evW F a s h (fun x h1 => evbW F an r x s h1 Q X) X
  | .ife c a b _, s, h, Q, X => evW F c s h (fun x h1 => truW h1 x fun k => brW k (evW F a s h1 Q X) (evW F b s h1 Q X)) X
  | .tup es _, s, h, Q, X => evsW F es s h (fun xs h1 => ScW xs.length (Q (.tup xs) h1)) X
  | .newl l, s, h, Q, X => evlW F l s h (fun xs h1 => ScW xs.length (Q (.ref h1.length) (h1 ++ [.lst xs]))) X
  | .ix a i _, s, h, Q, X => evW F a s h (fun x h1 => evW F i s h1 (fun y h2 => ixW x y h2 Q X) X) X
  | .slc a lo hi _ _, s, h, Q, X => evW F a s h (fun x h1 => evoW F lo s h1 (fun l h2 => evoW F hi s h2 (fun u h3 => slcW x l u h3 Q X) X) X) X
  | .rev a _ _ _ _, s, h, Q, X => evW F a s h (fun x h1 => Wp (revop x h1) Q X) X
  | .att a f _ _, s, h, Q, X => evW F a s h (fun x h1 => attW f x h1 Q) X
  | .call f _ _ es _, s, h, Q, X => evsW F es s h (fun xs h1 => Wp (F.cf f xs h1) Q X) X
  | .callk f _ _ es ks _, s, h, Q, X => evsW F es s h (fun xs h1 => evsW F ks s h1 (fun ys h2 => Wp (F.cf f (xs ++ ys) h2) Q X) X) X
  | .make c _ _ es _, s, h, Q, X => evsW F es s h (fun xs h1 => Wp (makK1 F c xs h1) Q X) X
  | .mth o m _ _ es _, s, h, Q, X => evW F o s h (fun x h1 => match x with
    | .ref l => LkC h1 l fun c => optW (F.md c m) fun f => evsW F es s h1 (fun xs h2 => Wp (F.cf f (.ref l :: xs) h2) Q X) X
    | _ => False) X
  | .b1 b e _ _, s, h, Q, X => evW F e s h (fun x h1 => b1W b x h1 Q X) X
  | .bl b l _ _, s, h, Q, X => evlW F l s h (fun xs h1 => optW (blop b xs) fun d => Q d h1) X
  | .isi e t _ _ _, s, h, Q, X => evW F e s h (fun x h1 => isiW t x h1 Q) X
  | .join e l _ _, s, h, Q, X => evW F e s h (fun x h1 => gdW (strQ x) (evlW F l s h1 (fun xs h2 => Wp (joinop x xs h2) Q X) X)) X
  | .ext o l _ _, s, h, Q, X => evW F o s h (fun x h1 => Gd (lstQ h1 x = true) (evlW F l s h1 (fun ys h2 => Wp (extop x ys h2) Q X) X)) X
  | .bm m o es _ _, s, h, Q, X => evW F o s h (fun x h1 => Gd (bmty m h1 x = true) (evsW F es s h1 (fun xs h2 => Wp (bmop m x xs h2) Q X) X)) X
  | .dict _ _, s, h, Q, X => Q (.ref h.length) (h ++ [.dic []])
  | .refd c f _ _ _ b _ _, s, h, Q, X => evW F b s h (fun _ h1 => Q (.str []) h1) (fun c' fs h1 => c' = c ∧ optW (fget fs f) fun d => Q d h1)
  | e, s, h, Q, X => Wp (ev F e s h) Q X
termination_by structural x => x
def evsW (F : Cf) : E → Sl → AH → Qt (List D) → Xt → Prop
  | .anil, s, h, Q, X => Q [] h
  | .acons a r, s, h, Q, X => evW F a s h (fun x h1 => evsW F r s h1 (fun xs h2 => Q (x :: xs) h2) X) X
  | .knil, s, h, Q, X => Q [] h
  | .kcons _ e _ r, s, h, Q, X => evW F e s h (fun x h1 => evsW F r s h1 (fun xs h2 => Q (x :: xs) h2) X) X
  | e, s, h, Q, X => Wp (evs F e s h) Q X
termination_by structural x => x
def evbW (F : Cf) (an : Bool) : E → D → Sl → AH → Qt D → Xt → Prop
  | .anil, x, s, h, Q, X => Q x h
  | .acons a r, x, s, h, Q, X => truW h x fun k => match an with
    | true => brW k (evW F a s h (fun y h2 => evbW F true r y s h2 Q X) X) (Q x h)
    | false => brW k (Q x h) (evW F a s h (fun y h2 => evbW F false r y s h2 Q X) X)
  | e, x, s, h, Q, X => Wp (evb F an e x s h) Q X
termination_by structural x => x
def evoW (F : Cf) : E → Sl → AH → Qt (Option Int) → Xt → Prop
  | .onone, s, h, Q, X => Q none h
  | .osome e, s, h, Q, X => evW F e s h (fun x h1 => intW x fun i => Q (some i) h1) X
  | e, s, h, Q, X => Wp (evo F e s h) Q X
termination_by structural x => x
def evcW (F : Cf) : E → Sl → AH → Qt Bool → Xt → Prop
  | .onone, s, h, Q, X => Q true h
  | .osome e, s, h, Q, X => evW F e s h (fun x h1 => truW h1 x fun b => Q b h1) X
  | e, s, h, Q, X => Wp (evc F e s h) Q X
termination_by structural x => x
def evlW (F : Cf) : E → Sl → AH → Qt (List D) → Xt → Prop
  | .ldisp es _, s, h, Q, X => evsW F es s h (fun xs h1 => ScW xs.length (Q xs h1)) X
  | .lval e, s, h, Q, X => evW F e s h (fun x h1 => valW x h1 Q) X
  | .lref e, s, h, Q, X => evW F e s h (fun x h1 => refW x h1 Q) X
  | .llist e _ _, s, h, Q, X => evW F e s h (fun x h1 => lisW x h1 Q) X
  | .lsrt l _ _, s, h, Q, X => evlW F l s h (fun xs h1 => optW (srtop xs) fun ys => Q ys h1) X
  | .lsrs l _ _ _ _, s, h, Q, X => evlW F l s h (fun xs h1 => optW (srsop xs) fun ys => Q ys h1) X
  | .lc e tg it c own _ _, s, h, Q, X => eviW F it s h (fun w h1 => ScW w.1.length (Wp (lcM tg.set (evc F c) (ev F e) w.2 (wip s own) w.1 h1) Q X)) X
  | e, s, h, Q, X => Wp (evl F e s h) Q X
termination_by structural x => x
def eviW (F : Cf) : E → Sl → AH → Qt Wk → Xt → Prop
  | .iseq e, s, h, Q, X => evW F e s h (fun x h1 => seqW x h1 Q) X
  | .irng1 e _ _, s, h, Q, X => evW F e s h (fun x h1 => rngW x fun w => Q w h1) X
  | .irng2 a b _ _, s, h, Q, X => evW F a s h (fun x h1 => evW F b s h1 (fun y h2 => rg2W x y fun w => Q w h2) X) X
  | .ienum e _ _, s, h, Q, X => evW F e s h (fun x h1 => seqW x h1 fun w h2 => Q (enumF 0 w.1, w.2) h2) X
  | e, s, h, Q, X => Wp (evi F e s h) Q X
end
structure WOK (F : Cf) (e : E) : Prop where
  v : ∀ {s h Q X}, evW F e s h Q X → Wp (ev F e s h) Q X
  s : ∀ {s h Q X}, evsW F e s h Q X → Wp (evs F e s h) Q X
  b : ∀ {an x s h Q X}, evbW F an e x s h Q X → Wp (evb F an e x s h) Q X
  o : ∀ {s h Q X}, evoW F e s h Q X → Wp (evo F e s h) Q X
  c : ∀ {s h Q X}, evcW F e s h Q X → Wp (evc F e s h) Q X
  l : ∀ {s h Q X}, evlW F e s h Q X → Wp (evl F e s h) Q X
  i : ∀ {s h Q X}, eviW F e s h Q X → Wp (evi F e s h) Q X
theorem intW_ok {x : D} {h : AH} {Q : Qt (Option Int)} {X : Xt} (k : intW x fun i => Q (some i) h) : Wp (intK x h) Q X := by
  cases x with
  | int i => exact ⟨k⟩
  | _ => exact k.elim
theorem negW_ok {x : D} {h : AH} {Q : Qt D} {X : Xt} (k : intW x fun i => Q (.int (-i)) h) : Wp (negK x h) Q X := by
  cases x with
  | int i => exact ⟨k⟩
  | _ => exact k.elim
theorem evW_ok (F : Cf) (e : E) : WOK F e := by
  induction e with
  | var i x p => exact ⟨fun k => w_optW k, id, id, id, id, id, id⟩
  | cst d p => exact ⟨fun k => ⟨k⟩, id, id, id, id, id, id⟩
  | glo d x p => exact ⟨fun k => ⟨k⟩, id, id, id, id, id, id⟩
  | bin o a b p A B => exact ⟨fun k => w_b2 (A.v k) fun _ _ k => w_b2 (B.v k) fun _ _ k => binW_ok k, id, id, id, id, id, id⟩
  | neg a p A => exact ⟨fun k => w_b2 (A.v k) fun _ _ k => negW_ok k, id, id, id, id, id, id⟩
  | not a p A => exact ⟨fun k => w_b2 (A.v k) fun _ _ k => w_tru2 k fun _ k => ⟨k⟩, id, id, id, id, id, id⟩
  | cmp o a b p A B => exact ⟨fun k => w_b2 (A.v k) fun _ _ k => w_b2 (B.v k) fun _ _ k => cmpW_ok k, id, id, id, id, id, id⟩
  | cmp2 o o' a b c p A B C => exact ⟨fun k => w_b2 (A.v k) fun _ _ k => w_b2 (B.v k) fun x h2 k => by
      have k1 := cmpW_ok k
      unfold cmpR at k1
      cases e : cmpop o _ _ h2 with
      | none => rw [e] at k1; exact k1.h.elim
      | some b => rw [e] at k1; exact w_bnd (w_opt rfl (br_R (br_mono k1.h (fun k => w_b2 (C.v k) fun _ _ k => cmpW_ok k) fun k => ⟨k⟩))), id, id, id, id, id, id⟩
  | bo an a r p A R => exact ⟨fun k => w_b2 (A.v k) fun _ _ k => R.b k, id, id, id, id, id, id⟩
  | ife c a b p C A B => exact ⟨fun k => w_b2 (C.v k) fun _ _ k => w_tru2 k fun _ k => br_R (br_mono k A.v B.v), id, id, id, id, id, id⟩
  | tup es p A => exact ⟨fun k => w_b2 (A.s k) fun _ _ k => w_iP (ScW.le k).1 ⟨(ScW.le k).2⟩, id, id, id, id, id, id⟩
  | newl l A => exact ⟨fun k => w_b2 (A.l k) fun _ _ k => w_iP (ScW.le k).1 ⟨(ScW.le k).2⟩, id, id, id, id, id, id⟩
  | ix a i p A I => exact ⟨fun k => w_b2 (A.v k) fun _ _ k => w_b2 (I.v k) fun _ _ k => ixW_ok k, id, id, id, id, id, id⟩
  | slc a lo hi p2 p A L H => exact ⟨fun k => w_b2 (A.v k) fun _ _ k => w_b2 (L.o k) fun _ _ k => w_b2 (H.o k) fun _ _ k => slcW_ok k, id, id, id, id, id, id⟩
  | rev a p1 p2 p3 p A => exact ⟨fun k => w_b2 (A.v k) fun _ _ k => k, id, id, id, id, id, id⟩
  | att a f x p A => exact ⟨fun k => w_b2 (A.v k) fun _ _ k => attW_ok k, id, id, id, id, id, id⟩
  | call f x px es p A => exact ⟨fun k => w_b2 (A.s k) fun _ _ k => k, id, id, id, id, id, id⟩
  | callk f x px es ks p A B => exact ⟨fun k => w_b2 (A.s k) fun _ _ k => w_b2 (B.s k) fun _ _ k => k, id, id, id, id, id, id⟩
  | make c x px es p A => exact ⟨fun k => w_b2 (A.s k) fun _ _ k => k, id, id, id, id, id, id⟩
  | mth o m x ap es p A B => exact ⟨fun k => w_b2 (A.v k) fun x _ k => by
      cases x with
      | ref l =>
        obtain ⟨e, k⟩ := k
        obtain ⟨f, ef, k⟩ := optW.t k
        exact w_eq (mth_r e ef rfl) (w_b2 (B.s k) fun _ _ k => k)
      | _ => exact k.elim, id, id, id, id, id, id⟩
  | b1 b e px p A => exact ⟨fun k => w_b2 (A.v k) fun _ _ k => b1W_ok k, id, id, id, id, id, id⟩
  | bl b l px p A => exact ⟨fun k => w_b2 (A.l k) fun _ _ k => w_optW k, id, id, id, id, id, id⟩
  | isi e t px pt p A => exact ⟨fun k => w_b2 (A.v k) fun _ _ k => isiW_ok k, id, id, id, id, id, id⟩
  | join e l ap p A B => exact ⟨fun k => w_b2 (A.v k) fun _ _ k => w_iP (gdW.t k).1 (w_b2 (B.l (gdW.t k).2) fun _ _ k => k), id, id, id, id, id, id⟩
  | ext o l ap p A B => exact ⟨fun k => w_b2 (A.v k) fun _ _ k => w_iP k.1 (w_b2 (B.l k.2) fun _ _ k => k), id, id, id, id, id, id⟩
  | bm m o es ap p A B => exact ⟨fun k => w_b2 (A.v k) fun _ _ k => w_iP k.1 (w_b2 (B.s k.2) fun _ _ k => k), id, id, id, id, id, id⟩
  | isnil ne l p2 p A => exact ⟨id, id, id, id, id, id, id⟩
  | dict ks p => exact ⟨fun k => ⟨k⟩, id, id, id, id, id, id⟩
  | refd c f x px sc b pl p A => exact ⟨fun {s h Q X} k => by
      have := A.v k
      show Wp (match ev F b s h with
        | .ok _ h1 => Rs.ok (.str []) h1
        | .ex c' fs h1 => if c' = c then optR (fget fs f) h1 else .no
        | .no => .no) _ _
      cases e : ev F b s h with
      | ok d h1 => rw [e] at this; exact ⟨this.h⟩
      | ex c' fs h1 => rw [e] at this; exact w_iP this.h.1 (w_optW this.h.2)
      | no => rw [e] at this; exact this.h.elim, id, id, id, id, id, id⟩
  | anil => exact ⟨id, fun k => ⟨k⟩, fun k => ⟨k⟩, id, id, id, id⟩
  | acons a r A R => exact ⟨id, fun k => w_b2 (A.v k) fun _ _ k => w_b2 (R.s k) fun _ _ k => ⟨k⟩, fun {an x s h Q X} k => by
      refine w_tru2 k fun b q => ?_
      cases an <;> cases b
      · exact w_iP rfl (w_b2 (A.v q) fun _ _ k => R.b k)
      · exact w_iN (by decide) ⟨q⟩
      · exact w_iN (by decide) ⟨q⟩
      · exact w_iP rfl (w_b2 (A.v q) fun _ _ k => R.b k), id, id, id, id⟩
  | knil => exact ⟨id, fun k => ⟨k⟩, id, id, id, id, id⟩
  | kcons x e p r A R => exact ⟨id, fun k => w_b2 (A.v k) fun _ _ k => w_b2 (R.s k) fun _ _ k => ⟨k⟩, id, id, id, id, id⟩
  | onone => exact ⟨id, id, id, fun k => ⟨k⟩, fun k => ⟨k⟩, id, id⟩
  | osome e A => exact ⟨id, id, id, fun k => w_b2 (A.v k) fun _ _ k => intW_ok k, fun k => w_b2 (A.v k) fun _ _ k => truW_ok k, id, id⟩
  | ldisp es p A => exact ⟨id, id, id, id, id, fun k => w_b2 (A.s k) fun _ _ k => w_iP (ScW.le k).1 ⟨(ScW.le k).2⟩, id⟩
  | lval e A => exact ⟨id, id, id, id, id, fun k => w_b2 (A.v k) fun _ _ k => valW_ok k, id⟩
  | lref e A => exact ⟨id, id, id, id, id, fun k => w_b2 (A.v k) fun _ _ k => refW_ok k, id⟩
  | llist e px p A => exact ⟨id, id, id, id, id, fun k => w_b2 (A.v k) fun _ _ k => lisW_ok k, id⟩
  | lsrt l px p A => exact ⟨id, id, id, id, id, fun k => w_b2 (A.l k) fun _ _ k => w_optW k, id⟩
  | lsrs l px p2 px2 p A => exact ⟨id, id, id, id, id, fun k => w_b2 (A.l k) fun _ _ k => w_optW k, id⟩
  | lc elt tg it cond own sc p A I C => exact ⟨id, id, id, id, id, fun k => w_b2 (I.i k) fun _ _ k => w_iP (ScW.le k).1 (ScW.le k).2, id⟩
  | iseq e A => exact ⟨id, id, id, id, id, id, fun k => w_b2 (A.v k) fun _ _ k => seqW_ok k⟩
  | irng1 e px p A => exact ⟨id, id, id, id, id, id, fun k => w_b2 (A.v k) fun _ _ k => w_optW k.t⟩
  | irng2 a b px p A B => exact ⟨id, id, id, id, id, id, fun k => w_b2 (A.v k) fun _ _ k => w_b2 (B.v k) fun _ _ k => w_optW k.t⟩
  | ienum e px p A => exact ⟨id, id, id, id, id, id, fun k => w_b2 (A.v k) fun _ _ k => enumW_ok k⟩
/-! statements -/
/-- behind a def -/
def endK (Q : D → AH → Prop) : Fl → AH → Prop := fun f h => match f with
  | .nx _ => Q .non h
  | .rt d => Q d h
  | _ => False
/-- behind a turn of a loop -/
def loopK (N : Sl → AH → Prop) (Q : Fl → AH → Prop) : Fl → AH → Prop := fun f h => match f with
  | .nx s => N s h
  | .ct s => N s h
  | .bk s => Q (.nx s) h
  | .rt d => Q (.rt d) h
def sqW (f : Fl) (h : AH) (K : Sl → AH → Prop) (Q : Qt Fl) : Prop := match f with
  | .nx s => K s h
  | .rt d => Q (.rt d) h
  | .bk s => Q (.bk s) h
  | .ct s => Q (.ct s) h
def augW (sb : Bool) (x y : D) (K : D → Prop) : Prop := match sb, x, y with
  | false, .int i, .int j => K (.int (i + j))
  | true, .int i, .int j => K (.int (i - j))
  | false, .str a, .str b => ScW (a.length + b.length) (K (.str (a ++ b)))
  | _, _, _ => False
theorem augW.t {sb : Bool} {x y : D} {K : D → Prop} {h : AH} (k : augW sb x y K) : ∃ z, augop sb x y h = .ok z h ∧ K z := by
  unfold augW at k
  split at k
  · exact ⟨_, rfl, k⟩
  · exact ⟨_, rfl, k⟩
  · exact ⟨_, if_pos ⟨rfl, (ScW.le k).1⟩, (ScW.le k).2⟩
  · exact k.elim
def exW (F : Cf) (xf : Nat → Option (List Nat)) : S → Sl → AH → Qt Fl → Xt → Prop
  | .snil, s, h, Q, X => Q (.nx s) h
  | .scons a r, s, h, Q, X => exW F xf a s h (fun f h1 => sqW f h1 (fun s1 h1 => exW F xf r s1 h1 Q X) Q) X
  | .exp e _, s, h, Q, X => evW F e s h (fun _ h1 => Q (.nx s) h1) X
  | .set i _ _ e _, s, h, Q, X => evW F e s h (fun x h1 => Q (.nx (asg1 s i x)) h1) X
  | .unp tg e _, s, h, Q, X => evW F e s h (fun x h1 => optW (tg.set x s) fun s1 => Q (.nx s1) h1) X
  | .par l _ es _ _, s, h, Q, X => evsW F es s h (fun xs h1 => optW (asgs s l xs) fun s1 => Q (.nx s1) h1) X
  | .fld o f _ _ e _, s, h, Q, X => evW F e s h (fun y h1 => evW F o s h1 (fun x h2 => Wp (fldK F f y s x h2) Q X) X) X
  | .fau o f _ _ sb e _, s, h, Q, X => evW F o s h (fun x h1 => Wp (fauK F f sb e s x h1) Q X) X
  | .aug i _ _ sb e _, s, h, Q, X => optW (sget s i) fun v => evW F e s h (fun y h1 => augW sb v y fun z => Q (.nx (asg1 s i z)) h1) X
  | .sub o i _ e _, s, h, Q, X => evW F e s h (fun d h1 => evW F o s h1 (fun x h2 => evW F i s h2 (fun y h3 => Wp (setop x y d h3) (fun _ h4 => Q (.nx s) h4) X) X) X) X
  | .ret e _, s, h, Q, X => evW F e s h (fun x h1 => Q (.rt x) h1) X
  | .retn _, s, h, Q, X => Q (.rt .non) h
  | .ife c a b _, s, h, Q, X => evW F c s h (fun x h1 => truW h1 x fun k => brW k (exW F xf a s h1 Q X) (exW F xf b s h1 Q X)) X
  | .whl c b _, s, h, Q, X => Wp (whM (evt F c) (ex F xf b) WF s h) Q X
  | .loop tg it b _, s, h, Q, X => eviW F it s h (fun w h1 => Wp (foM tg.set (ex F xf b) w.2 w.1 s h1) Q X) X
  | .brk _, s, h, Q, X => Q (.bk s) h
  | .cnt _, s, h, Q, X => Q (.ct s) h
  | .pas _, s, h, Q, X => Q (.nx s) h
  | .rai c _ _ es _ _, s, h, Q, X => evsW F es s h (fun xs h1 => optW (exc xf c xs) fun fs => X c fs h1) X
  | .tryr b c _ _ _ _ hr _ _ _, s, h, Q, X => exW F xf b s h Q (fun c' fs h1 => gdW (xf c').isSome (brW (c' == c) (optW (hr.val fs) fun d => Q (.rt d) h1) (X c' fs h1)))
theorem exW_ok (F : Cf) (xf : Nat → Option (List Nat)) (a : S) : ∀ {s h Q X}, exW F xf a s h Q X → Wp (ex F xf a s h) Q X := by
  induction a with
  | snil => exact fun k => ⟨k⟩
  | scons a r A R =>
    exact fun k => w_b2 (A k) fun f h1 k => by
      cases f with
      | nx s1 => exact R k
      | rt d => exact ⟨k⟩
      | bk s => exact ⟨k⟩
      | ct s => exact ⟨k⟩
  | exp e p => exact fun k => w_b2 ((evW_ok F e).v k) fun _ _ k => ⟨k⟩
  | set i x px e p => exact fun k => w_b2 ((evW_ok F e).v k) fun _ _ k => ⟨k⟩
  | unp tg e p =>
    exact fun k => w_b2 ((evW_ok F e).v k) fun _ _ k => by
      obtain ⟨s1, e, k⟩ := k.t
      exact w_eqo (unp_r e) k
  | par l pt es p2 p =>
    exact fun k => w_b2 ((evW_ok F es).s k) fun _ _ k => by
      obtain ⟨s1, e, k⟩ := k.t
      exact w_eqo (par_r e) k
  | fld o f x pf e p => exact fun k => w_b2 ((evW_ok F e).v k) fun _ _ k => w_b2 ((evW_ok F o).v k) fun _ _ k => k
  | fau o f x pf sb e p => exact fun k => w_b2 ((evW_ok F o).v k) fun _ _ k => k
  | aug i x px sb e p =>
    exact fun k => by
      obtain ⟨v, ev, k⟩ := k.t
      refine w_eq (x_aug ev rfl) (w_b2 ((evW_ok F e).v k) fun _ h1 k => ?_)
      obtain ⟨z, ez, k⟩ := augW.t (h := h1) k
      rw [ez]
      exact ⟨k⟩
  | sub o i ps e p => exact fun k => w_b2 ((evW_ok F e).v k) fun _ _ k => w_b2 ((evW_ok F o).v k) fun _ _ k => w_b2 ((evW_ok F i).v k) fun _ _ k => w_b2 k fun _ _ k => ⟨k⟩
  | ret e p => exact fun k => w_b2 ((evW_ok F e).v k) fun _ _ k => ⟨k⟩
  | retn p => exact fun k => ⟨k⟩
  | ife c a b p A B =>
    exact fun k => w_bnd (w_b2 ((evW_ok F c).v k) fun x h1 k => by
      obtain ⟨b, e, k⟩ := k.t
      exact w_opt e (br_R (br_mono k A B)))
  | whl c b p B => exact id
  | loop tg it b p B => exact fun k => w_b2 ((evW_ok F it).i k) fun _ _ k => k
  | brk p => exact fun k => ⟨k⟩
  | cnt p => exact fun k => ⟨k⟩
  | pas p => exact fun k => ⟨k⟩
  | rai c x px es pc p =>
    exact fun k => w_b2 ((evW_ok F es).s k) fun _ _ k => by
      obtain ⟨s1, e, k⟩ := k.t
      exact w_eqx (rai_r e) k
  | tryr b c x px i n hr pr ph p B =>
    exact fun {s h Q X} k => by
      refine w_eq (x_try (r0 := ex F xf b s h) rfl rfl) ?_
      have := B k
      cases e : ex F xf b s h with
      | ok f h1 => rw [e] at this; exact ⟨this.h⟩
      | ex c' fs h1 =>
        rw [e] at this
        obtain ⟨hx, k⟩ := gdW.t this.h
        show Wp (if _ then if _ then _ else _ else _) _ _
        rw [if_pos hx]
        by_cases hc : c' = c
        · subst hc
          rw [if_pos rfl]
          have k : brW (c' == c') _ _ := k
          rw [beq_self_eq_true] at k
          obtain ⟨d, e2, k⟩ := optW.t k
          rw [e2]
          exact ⟨k⟩
        · rw [if_neg hc]
          have k : brW (c' == c) _ _ := k
          rw [beq_false_of_ne hc] at k
          exact ⟨k⟩
      | no => rw [e] at this; exact this.h.elim
section
variable {F : Cf} {xf : Nat → Option (List Nat)} {s s1 : Sl} {h : AH} {Q : Fl → AH → Prop} {QD : D → AH → Prop} {X : Nat → Fs → AH → Prop} {i j m c f l : Nat} {x n : Str} {p p2 p3 p4 : Pos} {d : D} {e es a' : E} {a b r : S} {tg : Tg} {xs : List D} {N : Sl → AH → Prop}
theorem w_fldK {y : D} {fs : Fs} (e : h[l]? = some (.ins c fs)) (en : fs.length < 900) (em : F.md c f = none) (k : Q (.nx s) (put h l (.ins c (fput f y fs)))) : Wp (fldK F f y s (.ref l) h) Q X := w_eqo (fld_r e en em) k
theorem w_fauK {sb : Bool} {fs : Fs} {v z y : D} (eo : h[l]? = some (.ins c fs)) (ef : fget fs f = some v) (ee : ev F e s h = .ok y h) (eg : augop sb v y h = .ok z h) (en : fs.length < 900) (k : Q (.nx s) (put h l (.ins c (fput f z fs)))) : Wp (fauK F f sb e s (.ref l) h) Q X := w_eqo (fau_r eo ef ee eg en) k
/-- a field that a constant is added to -/
theorem w_fauC {sb : Bool} {fs : Fs} {i j : Int} (eo : h[l]? = some (.ins c fs)) (ef : fget fs f = some (.int i)) (en : fs.length < 900) (k : Q (.nx s) (put h l (.ins c (fput f (.int (if sb = true then i - j else i + j)) fs)))) : Wp (fauK F f sb (.cst (.int j) p) s (.ref l) h) Q X := w_eqo (fau_r eo ef rfl rfl en) k
theorem w_setL {QU : Unit → AH → Prop} {xs : List D} {i : Int} {y : D} (e : h[l]? = some (.lst xs)) (k : optW (ixn xs.length i) fun k => QU () (put h l (.lst (xs.set k y)))) : Wp (setop (.ref l) (.int i) y h) QU X := by
  obtain ⟨j, hk, k⟩ := k.t
  exact w_eqo (setop_L e hk) k
/-- a for loop -/
theorem w_for {t : D → Sl → Option Sl} {b : M Fl} {g : Option (Nat × List D)} {xs : List D} (I : Nat → Sl → AH → Prop) (h0 : I 0 s h) (hg : ∀ i s h, i ≤ xs.length → I i s h → grd g h = true)
    (st : ∀ i x s h, xs[i]? = some x → I i s h → ∃ s1, t x s = some s1 ∧ Wp (b s1 h) (loopK (I (i + 1)) Q) X) (fin : ∀ s h, I xs.length s h → Q (.nx s) h) : Wp (foM t b g xs s h) Q X := by
  have key : ∀ (ys zs : List D) (s : Sl) (h : AH), xs = zs ++ ys → I zs.length s h → Wp (foM t b g ys s h) Q X := by
    intro ys
    induction ys with
    | nil =>
      intro zs s h e hi
      rw [List.append_nil] at e
      subst e
      show Wp (if grd g h = true then .ok (.nx s) h else .no) Q X
      rw [if_pos (hg _ _ _ (Nat.le_refl _) hi)]
      exact ⟨fin _ _ hi⟩
    | cons y ys ih =>
      intro zs s h e hi
      have hy : xs[zs.length]? = some y := by rw [e]; simp
      have hle : zs.length ≤ xs.length := by rw [e, List.length_append]; omega
      obtain ⟨s1, e1, k⟩ := st _ _ _ _ hy hi
      show Wp (if grd g h = true then match t y s with
        | none => Rs.no
        | some s1 => (b s1 h).bnd fun f h2 => match f with
          | .nx s2 => foM t b g ys s2 h2
          | .ct s2 => foM t b g ys s2 h2
          | .bk s2 => Rs.ok (.nx s2) h2
          | .rt d => Rs.ok (.rt d) h2
        else Rs.no) Q X
      rw [if_pos (hg _ _ _ hle hi), e1]
      refine w_b2 k (fun f h2 k2 => ?_)
      have e' : xs = (zs ++ [y]) ++ ys := by rw [e]; simp
      cases f with
      | nx s2 => exact ih _ _ _ e' (by rw [List.length_append]; exact k2)
      | ct s2 => exact ih _ _ _ e' (by rw [List.length_append]; exact k2)
      | bk s2 => exact ⟨k2⟩
      | rt d => exact ⟨k2⟩
  exact key xs [] s h rfl h0
/-- a while -/
theorem w_while {t : M Bool} {b : M Fl} (I : Nat → Sl → AH → Prop) : ∀ {n m : Nat} {s : Sl} {h : AH}, m < n → I m s h → (∀ m s h, I m s h → Wp (t s h) (fun k h1 => brW k (Wp (b s h1) (loopK (fun s2 h2 => ∃ m', m' < m ∧ I m' s2 h2) Q) X) (Q (.nx s) h1)) X) → Wp (whM t b n s h) Q X
  | 0, m, s, h, hm, hi, st => absurd hm (by omega)
  | n + 1, m, s, h, hm, hi, st => by
    show Wp ((t s h).bnd fun k h1 => if k = true then (b s h1).bnd fun f h2 => match f with
      | .nx s2 => whM t b n s2 h2
      | .ct s2 => whM t b n s2 h2
      | .bk s2 => .ok (.nx s2) h2
      | .rt d => .ok (.rt d) h2
    else .ok (.nx s) h1) Q X
    refine w_b2 (st m s h hi) (fun k h1 k1 => br_R (br_mono k1 (fun k1 => w_b2 k1 fun f h2 k2 => ?_) fun k1 => ⟨k1⟩))
    cases f with
    | nx s2 =>
      obtain ⟨m', h1, h2⟩ := k2
      exact w_while I (by omega) h2 st
    | ct s2 =>
      obtain ⟨m', h1, h2⟩ := k2
      exact w_while I (by omega) h2 st
    | bk s2 => exact ⟨k2⟩
    | rt d => exact ⟨k2⟩
theorem w_whl {I : Nat → Sl → AH → Prop} (m : Nat) (hm : m < WF) (hi : I m s h) (st : ∀ m s h, I m s h → evW F e s h (fun x h1 => truW h1 x fun k => brW k (exW F xf b s h1 (loopK (fun s2 h3 => ∃ m', m' < m ∧ I m' s2 h3) Q) X) (Q (.nx s) h1)) X)   : Wp (whM (evt F e) (ex F xf b) WF s h) Q X := by
  refine w_while I hm hi fun m s h hi => ?_
  refine w_b2 ((evW_ok F e).v (st m s h hi)) fun x h1 k => ?_
  obtain ⟨b, e, k⟩ := k.t
  exact w_opt e (br_mono k (exW_ok F xf _) id)
/-- a row made by a comprehension -/
theorem w_comp {QL : List D → AH → Prop} {t : D → Sl → Option Sl} {cc : E} {ee : E} {g : Option (Nat × List D)} {xs : List D} (I : Nat → List D → AH → Prop) (h0 : I 0 [] h) (hg : ∀ i ys h, i ≤ xs.length → I i ys h → grd g h = true)
    (st : ∀ i ys x h, xs[i]? = some x → I i ys h → ∃ s1, t x s = some s1 ∧ Wp (evc F cc s1 h) (fun k h1 => brW k (Wp (ev F ee s1 h1) (fun y h2 => I (i + 1) (ys ++ [y]) h2) nX) (I (i + 1) ys h1)) nX) (fin : ∀ ys h, I xs.length ys h → QL ys h) : Wp (lcM t (evc F cc) (ev F ee) g s xs h) QL X := by
  have key : ∀ (ys zs as : List D) (h : AH), xs = zs ++ ys → I zs.length as h → Wp (lcM t (evc F cc) (ev F ee) g s ys h) (fun bs h1 => QL (as ++ bs) h1) nX := by
    intro ys
    induction ys with
    | nil =>
      intro zs as h e hi
      rw [List.append_nil] at e
      subst e
      show Wp (if grd g h = true then .ok [] h else .no) _ _
      rw [if_pos (hg _ _ _ (Nat.le_refl _) hi)]
      exact ⟨show QL (as ++ []) h by rw [List.append_nil]; exact fin _ _ hi⟩
    | cons y ys ih =>
      intro zs as h e hi
      have hy : xs[zs.length]? = some y := by rw [e]; simp
      have hle : zs.length ≤ xs.length := by rw [e, List.length_append]; omega
      have e' : xs = (zs ++ [y]) ++ ys := by rw [e]; simp
      have el : (zs ++ [y]).length = zs.length + 1 := by rw [List.length_append]; rfl
      obtain ⟨s1, e1, k⟩ := st _ _ _ _ hy hi
      show Wp (if grd g h = true then match t y s with
        | none => Rs.no
        | some s1 => match evc F cc s1 h with
          | .ok true h1 => match ev F ee s1 h1 with
            | .ok y h2 => match lcM t (evc F cc) (ev F ee) g s ys h2 with
              | .ok ys h3 => Rs.ok (y :: ys) h3
              | _ => .no
            | _ => .no
          | .ok false h1 => lcM t (evc F cc) (ev F ee) g s ys h1
          | _ => .no
        else Rs.no) _ _
      rw [if_pos (hg _ _ _ hle hi), e1]
      obtain ⟨k, h1, e2, k1⟩ := w_inv k
      simp only [e2]
      cases k with
      | false =>
        have k2 : I _ _ _ := k1
        exact ih (zs ++ [y]) as h1 e' (by rw [el]; exact k2)
      | true =>
        obtain ⟨v, h2, e3, k2⟩ := w_inv k1
        simp only [e3]
        have k3 := ih (zs ++ [y]) (as ++ [v]) h2 e' (by rw [el]; exact k2)
        obtain ⟨bs, h3, e4, k4⟩ := w_inv k3
        simp only [e4]
        exact ⟨show QL (as ++ v :: bs) h3 by simpa using k4⟩
  have := key xs [] [] h rfl h0
  exact w_use this fun a h k => k
/-- a row whose items follow from what is walked alone, that changes nothing -/
theorem w_map {QL : List D → AH → Prop} {t : D → Sl → Option Sl} {cc : E} {ee : E} {g : Option (Nat × List D)} {xs : List D} (fs : D → Option D) (hg : grd g h = true)
    (st : ∀ x, x ∈ xs → ∃ s1, t x s = some s1 ∧ Wp (evc F cc s1 h) (fun k h1 => h1 = h ∧ brW k (Wp (ev F ee s1 h) (fun y h2 => h2 = h ∧ fs x = some y) nX) (fs x = none)) nX) (fin : QL (xs.filterMap fs) h) : Wp (lcM t (evc F cc) (ev F ee) g s xs h) QL X := by
  refine w_comp (I := fun i ys h1 => h1 = h ∧ ys = (xs.take i).filterMap fs) ⟨rfl, by simp⟩ (fun i ys h1 _ k => by rw [k.1]; exact hg) (fun i ys x h1 hx k => ?_) (fun ys h1 k => ?_)
  · obtain ⟨rfl, rfl⟩ := k
    obtain ⟨s1, e1, k⟩ := st x (List.mem_of_getElem? hx)
    refine ⟨s1, e1, ?_⟩
    have et : xs.take (i + 1) = xs.take i ++ [x] := by rw [List.take_add_one, hx]; rfl
    refine w_q k fun b h1 k => ?_
    obtain ⟨rfl, k⟩ := k
    refine br_mono k (fun k => w_q k fun y h2 k2 => ?_) (fun k => ?_)
    · exact ⟨k2.1, by rw [et, List.filterMap_append]; simp [k2.2]⟩
    · exact ⟨rfl, by rw [et, List.filterMap_append]; simp [k]⟩
  · obtain ⟨rfl, rfl⟩ := k
    rw [List.take_length]
    exact fin
end
theorem ext_gr {h h1 h2 : AH} {i : Nat} (G : Gr h h1) (E : Ext i h1 h2) (hi : h.length ≤ i) : Gr h h2 := ⟨Nat.le_trans G.len E.len, fun l hl => by rw [E.old l (by omega) (Nat.lt_of_lt_of_le hl G.len), G.old l hl]⟩
theorem kin_ne {h : AH} {i j : Nat} {o o' : O} (e1 : h[i]? = some o) (e2 : h[j]? = some o') (e : o ≠ o') : i ≠ j := by
  intro z
  subst z
  rw [e1] at e2
  cases e2
  exact e rfl
theorem rngF_len : ∀ (lo : Int) (n : Nat), (rngF lo n).length = n
  | _, 0 => rfl
  | lo, n + 1 => congrArg (· + 1) (rngF_len (lo + 1) n)
theorem rngF_at : ∀ (n i : Nat) (lo : Int), i < n → (rngF lo n)[i]? = some (.int (lo + i))
  | 0, i, lo, h => absurd h (by omega)
  | n + 1, 0, lo, h => by show some (D.int lo) = _; rw [show lo + ((0 : Nat) : Int) = lo by omega]
  | n + 1, i + 1, lo, h => by
    show (rngF (lo + 1) n)[i]? = _
    rw [rngF_at n i (lo + 1) (by omega), show lo + 1 + (i : Int) = lo + ((i + 1 : Nat) : Int) by omega]
theorem rngF_get {n i : Nat} {lo : Int} {x : D} (e : (rngF lo n)[i]? = some x) : i < n ∧ x = .int (lo + i) := by
  have h := (List.getElem?_eq_some_iff.mp e).1
  rw [rngF_len] at h
  rw [rngF_at n i lo h] at e
  cases e
  exact ⟨h, rfl⟩
theorem small_i {i : Int} (h1 : -1000000 ≤ i) (h2 : i ≤ 1000000) : smallI i = true := by
  unfold smallI
  exact decide_eq_true ⟨by omega, by omega⟩
theorem small_2 {i j : Int} (h1 : -1000000 ≤ i) (h2 : i ≤ 1000000) (h3 : -1000000 ≤ j) (h4 : j ≤ 1000000) : (smallI i && smallI j) = true := by
  rw [small_i h1 h2, small_i h3 h4]
  rfl
theorem put_ne2 {h : AH} {l m : Nat} {o o' : O} (n : l ≠ m) (e : h[m]? = some o) : (put h l o')[m]? = some o := (put_ne n).trans e
theorem app_get {h os : AH} {l : Nat} {o : O} (e : h[l]? = some o) : (h ++ os)[l]? = some o := Gr.get (Gr.app os) e
theorem lst_app {h : AH} {l : Nat} {os : List O} {xs : List D} (e : lstAt h l = some xs) : lstAt (h ++ os) l = some xs := Gr.lst (Gr.app os) e
theorem lst_put2 {h : AH} {l m : Nat} {o : O} {xs : List D} (n : l ≠ m) (e : lstAt h m = some xs) : lstAt (put h l o) m = some xs := (lst_put n).trans e
theorem Ext.lst {h h' : AH} {i l : Nat} {xs : List D} (E : Ext i h h') (hl : l ≠ i) (e : lstAt h l = some xs) : lstAt h' l = some xs := by
  unfold lstAt at e ⊢
  have hl2 : l < h.length := by
    rcases Nat.lt_or_ge l h.length with h1 | h1
    · exact h1
    · rw [List.getElem?_eq_none_iff.mpr h1] at e
      cases e
  rw [E.old l hl hl2]
  exact e
section
variable {h : AH} {Q : D → AH → Prop} {X : Nat → Fs → AH → Prop}
/-- equality of values without places -/
theorem w_eqP {x y : D} {a b : Nat} (e1 : dep x = some a) (e2 : dep y = some b) (hm : min a b ≤ 60) (k : Q (.bl (eqd x y)) h) : Wp (cmpR .eq x y h) Q X := by
  refine w_eqo (a := .bl (eqd x y)) (h' := h) ?_ k
  show optR ((eqh h x y).map D.bl) h = _
  rw [eqh_dep e1 e2 hm]
  rfl
theorem w_neP {x y : D} {a b : Nat} (e1 : dep x = some a) (e2 : dep y = some b) (hm : min a b ≤ 60) (k : Q (.bl (!eqd x y)) h) : Wp (cmpR .ne x y h) Q X := by
  refine w_eqo (a := .bl (!eqd x y)) (h' := h) ?_ k
  show optR (((eqh h x y).map (!·)).map D.bl) h = _
  rw [eqh_dep e1 e2 hm]
  rfl
theorem eqh_L {xs ys : List D} {l m a b : Nat} (h1 : lstAt h l = some xs) (h2 : lstAt h m = some ys) (e1 : deps xs = some a) (e2 : deps ys = some b) (hm : min a b ≤ 60) : eqh h (.ref l) (.ref m) = some (eqds xs ys) := by
  unfold eqh
  show (match (lstAt h l).map C.l, (lstAt h m).map C.l with
    | some a, some b => eqc a b
    | _, _ => none) = _
  rw [h1, h2]
  show (match deps xs, deps ys with
    | some a, some b => if min a b ≤ 60 then some (eqds xs ys) else none
    | _, _ => none) = _
  rw [e1, e2]
  exact if_pos hm
theorem w_eqL {xs ys : List D} {l m a b : Nat} (h1 : lstAt h l = some xs) (h2 : lstAt h m = some ys) (e1 : deps xs = some a) (e2 : deps ys = some b) (hm : min a b ≤ 60) (k : Q (.bl (eqds xs ys)) h) : Wp (cmpR .eq (.ref l) (.ref m) h) Q X := by
  refine w_eqo (a := .bl (eqds xs ys)) (h' := h) ?_ k
  show optR ((eqh h (.ref l) (.ref m)).map D.bl) h = _
  rw [eqh_L h1 h2 e1 e2 hm]
  rfl
theorem w_neL {xs ys : List D} {l m a b : Nat} (h1 : lstAt h l = some xs) (h2 : lstAt h m = some ys) (e1 : deps xs = some a) (e2 : deps ys = some b) (hm : min a b ≤ 60) (k : Q (.bl (!eqds xs ys)) h) : Wp (cmpR .ne (.ref l) (.ref m) h) Q X := by
  refine w_eqo (a := .bl (!eqds xs ys)) (h' := h) ?_ k
  show optR (((eqh h (.ref l) (.ref m)).map (!·)).map D.bl) h = _
  rw [eqh_L h1 h2 e1 e2 hm]
  rfl
end
end Mx

namespace P35
open PySem Mx Q35
def Fk (k : Nat) : Cf := ⟨call prog (k + 1), call prog k, md, ini⟩
theorem run2 (k f : Nat) (fn : Fn) (hf : fnl.lookup f = some fn) (args : List D) (h : AH) (hl : args.length = fn.np) (hn : fn.np ≤ fn.n) : call prog (k + 2) f args h = ends (ex (Fk k) xf fn.body (sl0 fn args) h) := by
  show runF prog (Fk k) f args h = _
  unfold runF
  have e : prog.fn f = some fn := hf
  rw [e]
  exact if_pos ⟨hl, hn⟩
@[simp] theorem Fk_cf (k : Nat) : (Fk k).cf = call prog (k + 1) := rfl
@[simp] theorem Fk_mf (k : Nat) : (Fk k).mf = call prog k := rfl
@[simp] theorem Fk_md (k : Nat) : (Fk k).md = md := rfl
@[simp] theorem Fk_ini (k : Nat) : (Fk k).ini = ini := rfl
theorem ife_b {α : Type} {b : Bool} {x y : α} : (if b = true then x else y) = cond b x y := by cases b <;> rfl
/-- tokens as they lie in a list -/
def tkd (t : Nat × Nat) : D := .tup [.str [t.1], .int t.2]
def tk (sg : Tk) : List D := sg.map tkd
@[simp] theorem tk_len (sg : Tk) : (tk sg).length = sg.length := List.length_map _
def rdf (il z a d : Nat) : Fs := [(3, .ref il), (4, .int z), (5, .int a), (6, .int d)]
def rd (il z a d : Nat) : O := .ins 5 (rdf il z a d)
structure Rd (h : AH) (ir il : Nat) (sg : Tk) (z a d : Nat) : Prop where
  o : h[ir]? = some (.ins 5 (rdf il z a d))
  l : h[il]? = some (.lst (tk sg))
def hd1 (sg : Tk) (a : Nat) : List Nat := match sg[a]? with
  | some t => [t.1]
  | none => []
def hdp (z : Nat) (sg : Tk) (a : Nat) : Nat := match sg[a]? with
  | some t => t.2
  | none => z
section
variable {h : AH} {ir il z a d k : Nat} {sg : Tk}
theorem ati_tk {t : Nat × Nat} (e : sg[a]? = some t) : ati (tk sg) (a : Int) = some (tkd t) := by
  have hl := (List.getElem?_eq_some_iff.mp e).1
  have h1 : ixn (tk sg).length (a : Int) = some a := by
    unfold ixn
    rw [if_pos (by omega), tk_len, if_pos (by omega)]
    rfl
  unfold ati
  rw [h1]
  show (tk sg)[a]? = _
  unfold tk
  rw [List.getElem?_map, e]
  rfl
end
theorem enter {k f : Nat} {fn : Fn} {b : S} {s : Sl} {args : List D} {h : AH} {r0 : Rs Fl} {R : Rs D} (hf : fnl.lookup f = some fn) (hl : args.length = fn.np ∧ fn.np ≤ fn.n) (hb : fn.body = b) (hs : sl0 fn args = s) (e : ex (Fk k) xf b s h = r0) (k0 : ends r0 = R) : call prog (k + 2) f args h = R := by
  rw [run2 k f fn hf args h hl.1 hl.2, hb, hs, e, k0]
theorem cf_r {k f : Nat} {args : List D} {h : AH} {R : Rs D} (e : call prog (k + 1) f args h = R) : (Fk k).cf f args h = R := e
theorem rd_ne {h : AH} {ir il z a d : Nat} {sg : Tk} (R : Rd h ir il sg z a d) : ir ≠ il := by
  intro e
  have h1 := R.o
  rw [e, R.l] at h1
  cases h1
theorem Rd.step {h : AH} {ir il z a d : Nat} {sg : Tk} (R : Rd h ir il sg z a d) (a' d' : Nat) : Rd (put h ir (.ins 5 (rdf il z a' d'))) ir il sg z a' d' := ⟨put_get R.o, by rw [put_ne (rd_ne R)]; exact R.l⟩
theorem ati_tk' {sg : Tk} {a : Nat} {t : Nat × Nat} (e : sg[a]? = some t) : ati (tk sg) (a : Int) = some (.tup [.str [t.1], .int t.2]) := ati_tk e
section
local macro_rules | `(tactic| array_get_dec) => `(tactic| first
  | assumption | exact rfl | exact put_get (by assumption) | exact lst_of (by assumption) | exact put_get (put_get (by assumption)))
local macro_rules | `(tactic| sizeOf_list_dec) => `(tactic| first
  | with_reducible first
    | exact val_r | exact valx_r
    | apply bnd_k
    | exact bnd_x
    | exact v_cst | exact v_glo
    | apply v_bin | apply v_cmp | apply v_bo | apply v_ife | apply v_tup | apply v_newl | apply v_ix | apply v_slc | apply v_rev | apply v_att | apply v_call | apply v_callk | apply v_make | apply v_mth | apply v_b1 | apply v_bl | apply v_isi | apply v_join | apply v_ext | apply v_bm | apply v_neg | apply v_not | exact v_dict
    | exact n_nil | apply n_cons | exact n_knil | apply n_kcons | exact o_none | apply o_some | exact c_none | apply c_some
    | apply l_disp | apply l_val | apply l_ref | apply l_list | apply i_seq | apply i_rng1 | apply i_rng2 | apply i_enum
    | exact b_nil | apply b_cons
    | exact x_nil | apply x_cons | apply x_exp | apply x_set | apply x_unp | apply x_par | apply x_fld | apply x_fau | apply x_sub | apply x_ret | exact x_retn | apply x_ife | apply x_loop | exact x_brk | exact x_cnt | exact x_pas | apply x_rai | apply x_try
    | apply seq_nx | exact seq_rt | exact seq_bk | exact seq_ct
    | exact tb_r | exact al_r | exact neg_r | exact int_r
    | exact binop_addI | exact binop_subI | exact cmp_ltI | exact cmp_leI | exact cmp_gtI | exact cmp_geI | exact cmp_eqI | exact cmp_neI | exact cmp_eqS | exact cmp_neS | exact in_S | exact nin_S | exact cmp_isB | exact cmp_isnB | exact cmp_isN | exact cmp_isnN | exact b1_int | exact b1_lenT | exact aug_i | exact aug_s
  | ((with_reducible apply v_var); exact rfl)
  | ((with_reducible apply opt_r); exact rfl)
  | ((with_reducible apply att_r); array_get_dec; exact rfl)
  | ((with_reducible apply mth_r); array_get_dec; exact rfl)
  | ((with_reducible apply fau_r); array_get_dec; exact rfl; exact v_cst; exact aug_i; exact of_decide_eq_true rfl)
  | ((with_reducible apply fau_r); array_get_dec; exact rfl; exact v_cst; exact aug_s; exact of_decide_eq_true rfl)
  | ((with_reducible apply fld_r); array_get_dec; exact of_decide_eq_true rfl; exact rfl)
  | ((with_reducible apply b1L_r); array_get_dec)
  | ((with_reducible apply ixL_r); array_get_dec; array_get_dec)
  | ((with_reducible apply ixT_r); exact rfl)
  | ((with_reducible apply addS_r); (first | exact of_decide_eq_true rfl | assumption | (simp [SZ] <;> omega)))
  | ((with_reducible apply sz_r); (first | exact of_decide_eq_true rfl | assumption | (simp [SZ] <;> omega)))
  | ((with_reducible apply par_r); exact rfl)
  | ((with_reducible apply unp_r); exact rfl)
  | ((with_reducible apply rai_r); exact rfl)
  | with_reducible apply cf_r
  | ((with_reducible apply ite_T); first | with_reducible rfl | assumption | exact decide_eq_true (by first | assumption | omega) | exact nd_T (by first | assumption | omega) | rfl)
  | ((with_reducible apply ite_F); first | with_reducible rfl | assumption | exact decide_eq_false (by first | assumption | omega) | exact nd_F (by first | assumption | omega) | rfl)
  | ((with_reducible apply itA_T); first | with_reducible rfl | assumption)
  | ((with_reducible apply itO_F); first | with_reducible rfl | assumption | exact decide_eq_false (by first | assumption | omega) | exact nd_F (by first | assumption | omega) | rfl)
  | ((with_reducible apply itO_T); first | with_reducible rfl | assumption | exact decide_eq_true (by first | assumption | omega) | exact nd_T (by first | assumption | omega) | rfl)
  | ((with_reducible apply ite_T); exact lstQ_r (by array_get_dec))
  | ((with_reducible apply app_r); array_get_dec; (first | assumption | exact of_decide_eq_true rfl | (simp [SZ] <;> omega)))
  | with_reducible apply bnd_r)
variable {h : AH} {ir il z a d n : Nat} {sg : Tk} {t : Nat × Nat} {m s : List Nat}
theorem at_none (e : sg[a]? = none) : ¬((a : Int) < (tk sg).length) := by have := List.getElem?_eq_none_iff.mp e; rw [tk_len]; omega
theorem at_some (e : sg[a]? = some t) : ((a : Int) < (tk sg).length) := by have := (List.getElem?_eq_some_iff.mp e).1; rw [tk_len]; omega
theorem t_ahead (R : Rd h ir il sg z a d) (hn : 2 ≤ n) : call prog n 5 [.ref ir] h = .ok (.str (hd1 sg a)) h := by
  obtain ⟨k, rfl⟩ : ∃ k, n = k + 2 := ⟨n - 2, by omega⟩
  have ho := R.o
  have hl := lst_of R.l
  cases e : sg[a]? with
  | none =>
    have eh : hd1 sg a = [] := by simp only [hd1, e]
    have hn := at_none e
    rw [eh]
    apply enter (fn := f_Reader_ahead) (b := b_Reader_ahead) (s := [some (.ref ir)]) rfl ⟨rfl, by decide⟩ rfl rfl
    · unfold b_Reader_ahead
      repeat sizeOf_list_dec
    · rfl
  | some t =>
    have eh : hd1 sg a = [t.1] := by simp only [hd1, e]
    have hn := at_some e
    have hi := ati_tk' e
    rw [eh]
    apply enter (fn := f_Reader_ahead) (b := b_Reader_ahead) (s := [some (.ref ir)]) rfl ⟨rfl, by decide⟩ rfl rfl
    · unfold b_Reader_ahead
      repeat sizeOf_list_dec
    · rfl
theorem hd_some (e : sg[a]? = some t) : hd1 sg a = [t.1] := by simp only [hd1, e]
theorem hd_none (e : sg[a]? = none) : hd1 sg a = [] := by simp only [hd1, e]
theorem t_ahead1 (R : Rd h ir il sg z a d) (e : sg[a]? = some t) (hn : 2 ≤ n) : call prog n 5 [.ref ir] h = .ok (.str [t.1]) h := by rw [t_ahead R hn, hd_some e]
theorem t_ahead0 (R : Rd h ir il sg z a d) (e : sg[a]? = none) (hn : 2 ≤ n) : call prog n 5 [.ref ir] h = .ok (.str []) h := by rw [t_ahead R hn, hd_none e]
theorem t_fail1 (R : Rd h ir il sg z a d) (e : sg[a]? = some t) (hn : 2 ≤ n) : call prog n 6 [.ref ir, .str m] h = .ex 1 [(18, .int t.2), (19, .str m)] h := by
  obtain ⟨k, rfl⟩ : ∃ k, n = k + 2 := ⟨n - 2, by omega⟩
  have ho := R.o
  have hl := lst_of R.l
  have hn := at_some e
  have hi := ati_tk' e
  apply enter (fn := f_Reader_fail) (b := b_Reader_fail) (s := [some (.ref ir), some (.str m)]) rfl ⟨rfl, by decide⟩ rfl rfl
  · unfold b_Reader_fail
    repeat sizeOf_list_dec
  · rfl
theorem t_fail0 (R : Rd h ir il sg z a d) (e : sg[a]? = none) (hn : 2 ≤ n) : call prog n 6 [.ref ir, .str m] h = .ex 1 [(18, .int z), (19, .str m)] h := by
  obtain ⟨k, rfl⟩ : ∃ k, n = k + 2 := ⟨n - 2, by omega⟩
  have ho := R.o
  have hl := lst_of R.l
  have hn := at_none e
  apply enter (fn := f_Reader_fail) (b := b_Reader_fail) (s := [some (.ref ir), some (.str m)]) rfl ⟨rfl, by decide⟩ rfl rfl
  · unfold b_Reader_fail
    repeat sizeOf_list_dec
  · rfl
theorem t_fail (R : Rd h ir il sg z a d) (hn : 2 ≤ n) : call prog n 6 [.ref ir, .str m] h = .ex 1 [(18, .int (hdp z sg a)), (19, .str m)] h := by
  unfold hdp
  cases e : sg[a]? with
  | none => exact t_fail0 R e hn
  | some t => exact t_fail1 R e hn
end
end P35

namespace P35
open PySem Mx Q35
section
local macro_rules | `(tactic| array_get_dec) => `(tactic| first
  | assumption | exact rfl | exact put_get (by assumption) | exact lst_of (by assumption) | exact put_get (put_get (by assumption)))
local macro_rules | `(tactic| sizeOf_list_dec) => `(tactic| first
  | with_reducible first
    | exact val_r | exact valx_r
    | apply bnd_k
    | exact bnd_x
    | exact v_cst | exact v_glo
    | apply v_bin | apply v_cmp | apply v_bo | apply v_ife | apply v_tup | apply v_newl | apply v_ix | apply v_slc | apply v_rev | apply v_att | apply v_call | apply v_callk | apply v_make | apply v_mth | apply v_b1 | apply v_bl | apply v_isi | apply v_join | apply v_ext | apply v_bm | apply v_neg | apply v_not | exact v_dict
    | exact n_nil | apply n_cons | exact n_knil | apply n_kcons | exact o_none | apply o_some | exact c_none | apply c_some
    | apply l_disp | apply l_val | apply l_ref | apply l_list | apply i_seq | apply i_rng1 | apply i_rng2 | apply i_enum
    | exact b_nil | apply b_cons
    | exact x_nil | apply x_cons | apply x_exp | apply x_set | apply x_unp | apply x_par | apply x_fld | apply x_fau | apply x_sub | apply x_ret | exact x_retn | apply x_ife | apply x_loop | exact x_brk | exact x_cnt | exact x_pas | apply x_rai | apply x_try
    | apply seq_nx | exact seq_rt | exact seq_bk | exact seq_ct
    | exact tb_r | exact al_r | exact neg_r | exact int_r
    | exact binop_addI | exact binop_subI | exact cmp_ltI | exact cmp_leI | exact cmp_gtI | exact cmp_geI | exact cmp_eqI | exact cmp_neI | exact cmp_eqS | exact cmp_neS | exact in_S | exact nin_S | exact cmp_isB | exact cmp_isnB | exact cmp_isN | exact cmp_isnN | exact b1_int | exact b1_lenT | exact aug_i | exact aug_s
  | ((with_reducible apply v_var); exact rfl)
  | ((with_reducible apply opt_r); exact rfl)
  | ((with_reducible apply att_r); array_get_dec; exact rfl)
  | ((with_reducible apply mth_r); array_get_dec; exact rfl)
  | ((with_reducible apply fau_r); array_get_dec; exact rfl; exact v_cst; exact aug_i; exact of_decide_eq_true rfl)
  | ((with_reducible apply fau_r); array_get_dec; exact rfl; exact v_cst; exact aug_s; exact of_decide_eq_true rfl)
  | ((with_reducible apply fld_r); array_get_dec; exact of_decide_eq_true rfl; exact rfl)
  | ((with_reducible apply b1L_r); array_get_dec)
  | ((with_reducible apply ixL_r); array_get_dec; array_get_dec)
  | ((with_reducible apply ixT_r); exact rfl)
  | ((with_reducible apply addS_r); (first | exact of_decide_eq_true rfl | assumption | (simp [SZ] <;> omega)))
  | ((with_reducible apply sz_r); (first | exact of_decide_eq_true rfl | assumption | (simp [SZ] <;> omega)))
  | ((with_reducible apply par_r); exact rfl)
  | ((with_reducible apply unp_r); exact rfl)
  | ((with_reducible apply rai_r); exact rfl)
  | with_reducible apply cf_r
  | ((with_reducible apply ite_T); first | with_reducible rfl | assumption | exact decide_eq_true (by first | assumption | omega) | exact nd_T (by first | assumption | omega) | rfl)
  | ((with_reducible apply ite_F); first | with_reducible rfl | assumption | exact decide_eq_false (by first | assumption | omega) | exact nd_F (by first | assumption | omega) | rfl)
  | ((with_reducible apply itA_T); first | with_reducible rfl | assumption)
  | ((with_reducible apply itO_F); first | with_reducible rfl | assumption | exact decide_eq_false (by first | assumption | omega) | exact nd_F (by first | assumption | omega) | rfl)
  | ((with_reducible apply itO_T); first | with_reducible rfl | assumption | exact decide_eq_true (by first | assumption | omega) | exact nd_T (by first | assumption | omega) | rfl)
  | ((with_reducible apply ite_T); exact lstQ_r (by array_get_dec))
  | ((with_reducible apply app_r); array_get_dec; (first | assumption | exact of_decide_eq_true rfl | (simp [SZ] <;> omega)))
  | with_reducible apply bnd_r)
variable {h : AH} {ir il z a d n : Nat} {sg : Tk} {t : Nat × Nat} {m s : List Nat}
theorem t_take1 (R : Rd h ir il sg z a d) (e : sg[a]? = some t) (hc : t.1 ∈ s) (hn : 4 ≤ n) : call prog n 7 [.ref ir, .str s, .str m] h = .ok (.str [t.1]) (put h ir (.ins 5 (rdf il z (a + 1) d))) := by
  obtain ⟨k, rfl⟩ : ∃ k, n = k + 2 := ⟨n - 2, by omega⟩
  have ho := R.o
  apply enter (fn := f_Reader_take) (b := b_Reader_take) (s := [some (.ref ir), some (.str s), some (.str m), none]) rfl ⟨rfl, by decide⟩ rfl rfl
  · unfold b_Reader_take
    repeat sizeOf_list_dec
    exact t_ahead1 R e (by omega)
    repeat sizeOf_list_dec
  · rfl
theorem t_takeX1 (R : Rd h ir il sg z a d) (e : sg[a]? = some t) (hc : t.1 ∉ s) (hn : 4 ≤ n) : call prog n 7 [.ref ir, .str s, .str m] h = .ex 1 [(18, .int t.2), (19, .str m)] h := by
  obtain ⟨k, rfl⟩ : ∃ k, n = k + 2 := ⟨n - 2, by omega⟩
  have ho := R.o
  apply enter (fn := f_Reader_take) (b := b_Reader_take) (s := [some (.ref ir), some (.str s), some (.str m), none]) rfl ⟨rfl, by decide⟩ rfl rfl
  · unfold b_Reader_take
    repeat sizeOf_list_dec
    exact t_ahead1 R e (by omega)
    repeat sizeOf_list_dec
    exact t_fail1 R e (by omega)
    repeat sizeOf_list_dec
  · rfl
theorem t_takeX0 (R : Rd h ir il sg z a d) (e : sg[a]? = none) (hn : 4 ≤ n) : call prog n 7 [.ref ir, .str s, .str m] h = .ex 1 [(18, .int z), (19, .str m)] h := by
  obtain ⟨k, rfl⟩ : ∃ k, n = k + 2 := ⟨n - 2, by omega⟩
  have ho := R.o
  apply enter (fn := f_Reader_take) (b := b_Reader_take) (s := [some (.ref ir), some (.str s), some (.str m), none]) rfl ⟨rfl, by decide⟩ rfl rfl
  · unfold b_Reader_take
    repeat sizeOf_list_dec
    exact t_ahead0 R e (by omega)
    repeat sizeOf_list_dec
    exact t_fail0 R e (by omega)
    repeat sizeOf_list_dec
  · rfl
theorem t_begin (R : Rd h ir il sg z a d) (hd : d ≠ 20) (hn : 4 ≤ n) : call prog n 19 [.ref ir] h = .ok .non (put h ir (.ins 5 (rdf il z (a + 1) (d + 1)))) := by
  obtain ⟨k, rfl⟩ : ∃ k, n = k + 2 := ⟨n - 2, by omega⟩
  have ho := R.o
  have R1 := R.step (a + 1) d
  have ho1 := R1.o
  have e : put h ir (.ins 5 (rdf il z (a + 1) (d + 1))) = put (put h ir (.ins 5 (rdf il z (a + 1) d))) ir (.ins 5 (rdf il z (a + 1) (d + 1))) := put_put.symm
  rw [e]
  apply enter (fn := f_QuestionReader_begin_group) (b := b_QuestionReader_begin_group) (s := [some (.ref ir)]) rfl ⟨rfl, by decide⟩ rfl rfl
  · unfold b_QuestionReader_begin_group
    repeat sizeOf_list_dec
  · rfl
theorem t_beginX (R : Rd h ir il sg z a d) (hd : d = 20) (hn : 4 ≤ n) : call prog n 19 [.ref ir] h = .ex 1 [(18, .int (hdp z sg a)), (19, .str mDeep)] h := by
  obtain ⟨k, rfl⟩ : ∃ k, n = k + 2 := ⟨n - 2, by omega⟩
  have ho := R.o
  apply enter (fn := f_QuestionReader_begin_group) (b := b_QuestionReader_begin_group) (s := [some (.ref ir)]) rfl ⟨rfl, by decide⟩ rfl rfl
  · unfold b_QuestionReader_begin_group
    repeat sizeOf_list_dec
    exact t_fail R (by omega)
    repeat sizeOf_list_dec
  · rfl
theorem t_end (R : Rd h ir il sg z a (d + 1)) (e : sg[a]? = some t) (hc : t.1 = 41) (hn : 6 ≤ n) : call prog n 20 [.ref ir] h = .ok .non (put h ir (.ins 5 (rdf il z (a + 1) d))) := by
  obtain ⟨k, rfl⟩ : ∃ k, n = k + 2 := ⟨n - 2, by omega⟩
  have ho := R.o
  have R1 := R.step (a + 1) (d + 1)
  have ho1 := R1.o
  have ee : put h ir (.ins 5 (rdf il z (a + 1) d)) = put (put h ir (.ins 5 (rdf il z (a + 1) (d + 1)))) ir (.ins 5 (rdf il z (a + 1) d)) := put_put.symm
  have e2 : (((d + 1 : Nat) : Int) - 1) = (d : Int) := by omega
  rw [ee]
  apply enter (fn := f_QuestionReader_end_group) (b := b_QuestionReader_end_group) (s := [some (.ref ir)]) rfl ⟨rfl, by decide⟩ rfl rfl
  · unfold b_QuestionReader_end_group
    repeat sizeOf_list_dec
    exact t_take1 R e (by rw [hc]; decide) (by omega)
    repeat sizeOf_list_dec
  · show ends (Rs.ok _ (put _ ir (.ins 5 [(3, .ref il), (4, .int z), (5, .int ((a + 1 : Nat) : Int)), (6, .int (((d + 1 : Nat) : Int) - 1))]))) = _
    rw [e2]
    rfl
theorem t_endX1 (R : Rd h ir il sg z a d) (e : sg[a]? = some t) (hc : t.1 ≠ 41) (hn : 6 ≤ n) : call prog n 20 [.ref ir] h = .ex 1 [(18, .int t.2), (19, .str mCl)] h := by
  obtain ⟨k, rfl⟩ : ∃ k, n = k + 2 := ⟨n - 2, by omega⟩
  have ho := R.o
  apply enter (fn := f_QuestionReader_end_group) (b := b_QuestionReader_end_group) (s := [some (.ref ir)]) rfl ⟨rfl, by decide⟩ rfl rfl
  · unfold b_QuestionReader_end_group
    repeat sizeOf_list_dec
    exact t_takeX1 R e (by intro hm; exact hc (List.mem_singleton.mp hm)) (by omega)
    repeat sizeOf_list_dec
  · rfl
theorem t_endX0 (R : Rd h ir il sg z a d) (e : sg[a]? = none) (hn : 6 ≤ n) : call prog n 20 [.ref ir] h = .ex 1 [(18, .int z), (19, .str mCl)] h := by
  obtain ⟨k, rfl⟩ : ∃ k, n = k + 2 := ⟨n - 2, by omega⟩
  have ho := R.o
  apply enter (fn := f_QuestionReader_end_group) (b := b_QuestionReader_end_group) (s := [some (.ref ir)]) rfl ⟨rfl, by decide⟩ rfl rfl
  · unfold b_QuestionReader_end_group
    repeat sizeOf_list_dec
    exact t_takeX0 R e (by omega)
    repeat sizeOf_list_dec
  · rfl
end
end P35

namespace P35
open PySem Mx Q35
def nd (f s : List Nat) (i : Nat) : O := .ins 4 [(0, .str f), (14, .str s), (2, .ref i)]
def FA : List Nat := [102, 97, 99, 116]
/-- a tree in the heap -/
def QAt (h : AH) : QT → Nat → Prop
  | .fact s, l => ∃ i, h[l]? = some (nd FA s i) ∧ h[i]? = some (.lst [])
  | .op1 f q, l => ∃ i l1, h[l]? = some (nd f [] i) ∧ h[i]? = some (.lst [.ref l1]) ∧ QAt h q l1
  | .op2 f a b, l => ∃ i l1 l2, h[l]? = some (nd f [] i) ∧ h[i]? = some (.lst [.ref l1, .ref l2]) ∧ QAt h a l1 ∧ QAt h b l2
theorem QAt.gr {h h' : AH} (E : Gr h h') : ∀ {q : QT} {l : Nat}, QAt h q l → QAt h' q l
  | .fact s, l, ⟨i, e1, e2⟩ => ⟨i, E.get e1, E.get e2⟩
  | .op1 f q, l, ⟨i, l1, e1, e2, e3⟩ => ⟨i, l1, E.get e1, E.get e2, QAt.gr E e3⟩
  | .op2 f a b, l, ⟨i, l1, l2, e1, e2, e3, e4⟩ => ⟨i, l1, l2, E.get e1, E.get e2, QAt.gr E e3, QAt.gr E e4⟩
theorem QAt.ext {ir : Nat} {fs : Fs} {h h' : AH} (E : Ext ir h h') (ho : h[ir]? = some (.ins 5 fs)) {q : QT} {l : Nat} (H : QAt h q l) : QAt h' q l := by
  have hn : ∀ (x f s i), h[x]? = some (nd f s i) → x ≠ ir := by
    intro x f s i e1 e2
    rw [e2, ho] at e1
    cases e1
  have hl : ∀ (x xs), h[x]? = some (.lst xs) → x ≠ ir := by
    intro x xs e1 e2
    rw [e2, ho] at e1
    cases e1
  induction q generalizing l with
  | fact s =>
    obtain ⟨i, e1, e2⟩ := H
    exact ⟨i, E.get (hn _ _ _ _ e1) e1, E.get (hl _ _ e2) e2⟩
  | op1 f q ih =>
    obtain ⟨i, l1, e1, e2, e3⟩ := H
    exact ⟨i, l1, E.get (hn _ _ _ _ e1) e1, E.get (hl _ _ e2) e2, ih e3⟩
  | op2 f a b iha ihb =>
    obtain ⟨i, l1, l2, e1, e2, e3, e4⟩ := H
    exact ⟨i, l1, l2, E.get (hn _ _ _ _ e1) e1, E.get (hl _ _ e2) e2, iha e3, ihb e4⟩
/-- signs that may stand in a tree -/
def QW : QT → Prop
  | .fact s => s.length = 3
  | .op1 f q => (f = [126] ∨ ∃ c s, f = [c, s] ∧ (c = 69 ∨ c = 65) ∧ s ∈ steps) ∧ QW q
  | .op2 f a b => (f = [38] ∨ f = [124] ∨ f = [69, 85] ∨ f = [65, 85]) ∧ QW a ∧ QW b
def sz : QT → Nat
  | .fact _ => 1
  | .op1 _ q => sz q + 1
  | .op2 _ a b => sz a + sz b + 1
theorem sz_wrap : ∀ (fs : List (List Nat)) (q : QT), sz (wrap fs q) = fs.length + sz q
  | [], q => by simp [wrap]
  | f :: fs, q => by simp [wrap, sz_wrap fs, sz]; omega
def OW (f : List Nat) : Prop := f = [126] ∨ ∃ c s, f = [c, s] ∧ (c = 69 ∨ c = 65) ∧ s ∈ steps
theorem QW_wrap : ∀ (fs : List (List Nat)) (q : QT), (∀ f ∈ fs, OW f) → QW q → QW (wrap fs q)
  | [], q, _, hq => hq
  | f :: fs, q, hf, hq => QW_wrap fs (.op1 f q) (fun g hg => hf g (List.mem_cons_of_mem _ hg)) ⟨hf f (List.mem_cons_self ..), hq⟩
theorem Rd.ext {h h' : AH} {ir il z a d a' d' : Nat} {sg : Tk} (R : Rd h ir il sg z a d) (E : Ext ir h h') (o : h'[ir]? = some (.ins 5 (rdf il z a' d'))) : Rd h' ir il sg z a' d' := ⟨o, E.get (Ne.symm (rd_ne R)) R.l⟩
theorem Rd.gr {h h' : AH} {ir il z a d : Nat} {sg : Tk} (R : Rd h ir il sg z a d) (E : Gr h h') : Rd h' ir il sg z a d := ⟨E.get R.o, E.get R.l⟩
section
local macro_rules | `(tactic| array_get_dec) => `(tactic| first
  | assumption | exact rfl | exact put_get (by assumption) | exact lst_of (by assumption) | exact put_get (put_get (by assumption)))
local macro_rules | `(tactic| sizeOf_list_dec) => `(tactic| first
  | with_reducible first
    | exact val_r | exact valx_r
    | apply bnd_k
    | exact bnd_x
    | exact v_cst | exact v_glo
    | apply v_bin | apply v_cmp | apply v_bo | apply v_ife | apply v_tup | apply v_newl | apply v_ix | apply v_slc | apply v_rev | apply v_att | apply v_call | apply v_callk | apply v_make | apply v_mth | apply v_b1 | apply v_bl | apply v_isi | apply v_join | apply v_ext | apply v_bm | apply v_neg | apply v_not | exact v_dict
    | exact n_nil | apply n_cons | exact n_knil | apply n_kcons | exact o_none | apply o_some | exact c_none | apply c_some
    | apply l_disp | apply l_val | apply l_ref | apply l_list | apply i_seq | apply i_rng1 | apply i_rng2 | apply i_enum
    | exact b_nil | apply b_cons
    | exact x_nil | apply x_cons | apply x_exp | apply x_set | apply x_unp | apply x_par | apply x_fld | apply x_fau | apply x_sub | apply x_ret | exact x_retn | apply x_ife | apply x_loop | exact x_brk | exact x_cnt | exact x_pas | apply x_rai | apply x_try
    | apply seq_nx | exact seq_rt | exact seq_bk | exact seq_ct
    | exact tb_r | exact al_r | exact neg_r | exact int_r
    | exact binop_addI | exact binop_subI | exact cmp_ltI | exact cmp_leI | exact cmp_gtI | exact cmp_geI | exact cmp_eqI | exact cmp_neI | exact cmp_eqS | exact cmp_neS | exact in_S | exact nin_S | exact cmp_isB | exact cmp_isnB | exact cmp_isN | exact cmp_isnN | exact b1_int | exact b1_lenT | exact aug_i | exact aug_s
  | ((with_reducible apply v_var); exact rfl)
  | ((with_reducible apply opt_r); exact rfl)
  | ((with_reducible apply att_r); array_get_dec; exact rfl)
  | ((with_reducible apply mth_r); array_get_dec; exact rfl)
  | ((with_reducible apply fau_r); array_get_dec; exact rfl; exact v_cst; exact aug_i; exact of_decide_eq_true rfl)
  | ((with_reducible apply fau_r); array_get_dec; exact rfl; exact v_cst; exact aug_s; exact of_decide_eq_true rfl)
  | ((with_reducible apply fld_r); array_get_dec; exact of_decide_eq_true rfl; exact rfl)
  | ((with_reducible apply b1L_r); array_get_dec)
  | ((with_reducible apply ixL_r); array_get_dec; array_get_dec)
  | ((with_reducible apply ixT_r); exact rfl)
  | ((with_reducible apply addS_r); (first | exact of_decide_eq_true rfl | assumption | (simp [SZ] <;> omega)))
  | ((with_reducible apply sz_r); (first | exact of_decide_eq_true rfl | assumption | (simp [SZ] <;> omega)))
  | ((with_reducible apply par_r); exact rfl)
  | ((with_reducible apply unp_r); exact rfl)
  | ((with_reducible apply rai_r); exact rfl)
  | with_reducible apply cf_r
  | ((with_reducible apply ite_T); first | with_reducible rfl | assumption | exact decide_eq_true (by first | assumption | omega) | exact nd_T (by first | assumption | omega) | rfl)
  | ((with_reducible apply ite_F); first | with_reducible rfl | assumption | exact decide_eq_false (by first | assumption | omega) | exact nd_F (by first | assumption | omega) | rfl)
  | ((with_reducible apply itA_T); first | with_reducible rfl | assumption)
  | ((with_reducible apply itO_F); first | with_reducible rfl | assumption | exact decide_eq_false (by first | assumption | omega) | exact nd_F (by first | assumption | omega) | rfl)
  | ((with_reducible apply itO_T); first | with_reducible rfl | assumption | exact decide_eq_true (by first | assumption | omega) | exact nd_T (by first | assumption | omega) | rfl)
  | ((with_reducible apply ite_T); exact lstQ_r (by array_get_dec))
  | ((with_reducible apply app_r); array_get_dec; (first | assumption | exact of_decide_eq_true rfl | (simp [SZ] <;> omega)))
  | with_reducible apply bnd_r)
variable {h : AH} {ir il z a d n l m : Nat} {sg : Tk} {t : Nat × Nat}
theorem t_Qinit {x y w : D} (ho : h[l]? = some (.ins 4 [])) (hn : 2 ≤ n) : call prog n 14 [.ref l, x, y, w] h = .ok .non (put h l (.ins 4 [(0, x), (14, y), (2, w)])) := by
  obtain ⟨k, rfl⟩ : ∃ k, n = k + 2 := ⟨n - 2, by omega⟩
  have h1 : (put h l (.ins 4 [(0, x)]))[l]? = some (.ins 4 [(0, x)]) := put_get ho
  have h2 : (put (put h l (.ins 4 [(0, x)])) l (.ins 4 [(0, x), (14, y)]))[l]? = some (.ins 4 [(0, x), (14, y)]) := put_get h1
  have e : put h l (.ins 4 [(0, x), (14, y), (2, w)]) = put (put (put h l (.ins 4 [(0, x)])) l (.ins 4 [(0, x), (14, y)])) l (.ins 4 [(0, x), (14, y), (2, w)]) := by rw [put_put, put_put]
  rw [e]
  apply enter (fn := f_Question_init) (b := b_Question_init) (s := [some (.ref l), some x, some y, some w]) rfl ⟨rfl, by decide⟩ rfl rfl
  · unfold b_Question_init
    repeat sizeOf_list_dec
  · rfl
theorem put_new {o o' : O} : put (h ++ [o]) h.length o' = h ++ [o'] := by
  unfold put
  rw [List.set_append_right _ _ (Nat.le_refl _)]
  simp
theorem mk_r {x y w : D} (hn : 2 ≤ n) : makK1 (Fk n) 4 [x, y, w] h = .ok (.ref h.length) (h ++ [.ins 4 [(0, x), (14, y), (2, w)]]) := by
  have e : call prog n 14 [.ref h.length, x, y, w] (h ++ [.ins 4 []]) = _ := t_Qinit get_new hn
  rw [put_new] at e
  exact mak_ok (f := 14) rfl e
/-- operators put around a tree -/
theorem t_wrap1 (hn : 2 ≤ n) {rl : Nat} {all : List D} {x : Str} {p : Pos} : ∀ (fs : List (List Nat)) (q : QT) (l : Nat) (h : AH) (s2 : Option D) (f : Nat), lstAt h rl = some all → QAt h q l →
    ∃ l' h' s', foM (Tg.one 2 x p).set (ex (Fk n) xf (match b_wrapped with | .scons (.loop _ _ b _) _ => b | s => s)) (some (rl, all)) (fs.map .str) [some (.ref f), some (.ref l), s2] h = .ok (.nx [some (.ref f), some (.ref l'), s']) h' ∧ Gr h h' ∧ QAt h' (wrap fs q) l'
  | [], q, l, h, s2, f, hr, hq => ⟨l, h, s2, fo_nil (grd_s hr), Gr.refl, hq⟩
  | g :: fs, q, l, h, s2, f, hr, hq => by
    have G1 : Gr h (h ++ [.lst [.ref l]]) := Gr.app _
    have G2 : Gr (h ++ [O.lst [.ref l]]) (h ++ [.lst [.ref l]] ++ [nd g [] h.length]) := Gr.app _
    have G := G1.trans G2
    have hq1 : QAt (h ++ [.lst [.ref l]] ++ [nd g [] h.length]) (.op1 g q) (h ++ [O.lst [.ref l]]).length := ⟨h.length, l, get_new, G2.get get_new, hq.gr G⟩
    obtain ⟨l', h', s', e, Gx, hq2⟩ := t_wrap1 hn fs (.op1 g q) _ _ (some (.str g)) f (G.lst hr) hq1
    refine ⟨l', h', s', ?_, G.trans Gx, hq2⟩
    refine fo_cons (grd_s hr) rfl ?_ e
    unfold b_wrapped
    repeat sizeOf_list_dec
    exact mk_r hn
    repeat sizeOf_list_dec
    rfl
theorem t_wrapped {fs : List (List Nat)} {q : QT} {f : Nat} (hf : h[f]? = some (.lst (fs.map .str))) (hq : QAt h q l) (hn : 4 ≤ n) : ∃ l' h', call prog n 23 [.ref f, .ref l] h = .ok (.ref l') h' ∧ Gr h h' ∧ QAt h' (wrap fs.reverse q) l' := by
  obtain ⟨k, rfl⟩ : ∃ k, n = k + 2 := ⟨n - 2, by omega⟩
  have G1 : Gr h (h ++ [.lst (fs.map D.str).reverse]) := Gr.app _
  obtain ⟨l', h', s', e, Gx, hq2⟩ := t_wrap1 (n := k) (x := "form") (p := ⟨182, 8, 182, 12⟩) (by omega) (rl := h.length) (all := (fs.map D.str).reverse) fs.reverse q l _ none f (lst_of get_new) (hq.gr G1)
  rw [List.map_reverse] at e
  refine ⟨l', h', ?_, G1.trans Gx, hq2⟩
  have hs : lstAt (h ++ [.lst (fs.map D.str).reverse]) h.length = some (fs.map D.str).reverse := lst_of get_new
  apply enter (fn := f_wrapped) (b := b_wrapped) (s := [some (.ref f), some (.ref l), none]) rfl ⟨rfl, by decide⟩ rfl rfl
  · unfold b_wrapped
    repeat sizeOf_list_dec
    exact rev_r hf
    repeat sizeOf_list_dec
    exact seq_r hs
    repeat sizeOf_list_dec
    exact e
    repeat sizeOf_list_dec
  · rfl
end
end P35

namespace P35
open PySem Mx Q35
/-- what a reading method comes to -/
def PR (r : Rs D) (h : AH) (ir il z a d : Nat) (sg : Tk) (P : QT → Nat → Prop) (X : Nat → List Nat → Prop) : Prop :=
  (∃ l h' q a', r = .ok (.ref l) h' ∧ Ext ir h h' ∧ Rd h' ir il sg z a' d ∧ a' ≤ sg.length ∧ QAt h' q l ∧ QW q ∧ sz q + a ≤ a' ∧ P q a') ∨
  (∃ p m h', r = .ex 1 [(18, .int (p : Nat)), (19, .str m)] h' ∧ Ext ir h h' ∧ X p m)
def SE (d : Nat) : Prop := ∀ (n : Nat) (h : AH) (ir il z a : Nat) (sg : Tk), Rd h ir il sg z a d → sg.length ≤ 200 → a ≤ sg.length → 4 * (20 - d) + 12 ≤ n → PR (call prog n 16 [.ref ir] h) h ir il z a d sg (fun q a' => nj (sg.drop a') ∧ ∀ G : List Gk, G.length = d → tRun z (.ask F0) G (sg.drop a) = tRun z (.behind none q) G (sg.drop a')) (fun p m => ∀ G : List Gk, G.length = d → tRun z (.ask F0) G (sg.drop a) = .error (p, m))
def SG (d : Nat) : Prop := ∀ (n : Nat) (h : AH) (ir il z a : Nat) (sg : Tk), Rd h ir il sg z a d → sg.length ≤ 200 → 4 * (20 - d) + 9 ≤ n → (∀ t, sg[a]? = some t → t.1 ≠ 126 ∧ t.1 ≠ 69 ∧ t.1 ≠ 65) → PR (call prog n 22 [.ref ir] h) h ir il z a d sg (fun q a' => ∀ (G : List Gk) (F : Fr), G.length = d → tRun z (.ask F) G (sg.drop a) = tRun z (fin F q) G (sg.drop a')) (fun p m => ∀ (G : List Gk) (F : Fr), G.length = d → tRun z (.ask F) G (sg.drop a) = .error (p, m))
def SU (d : Nat) : Prop := ∀ (n : Nat) (h : AH) (ir il z a s : Nat) (sg : Tk) (p : Nat), Rd h ir il sg z a d → sg.length ≤ 200 → 4 * (20 - d) + 9 ≤ n → (s = 69 ∨ s = 65) → sg[a]? = some (40, p) → PR (call prog n 21 [.ref ir, .str [s]] h) h ir il z a d sg (fun q a' => ∀ (G : List Gk) (F : Fr), G.length = d → tRun z (.step s F) G (sg.drop a) = tRun z (fin F q) G (sg.drop a')) (fun p m => ∀ (G : List Gk) (F : Fr), G.length = d → tRun z (.step s F) G (sg.drop a) = .error (p, m))
theorem drop_some {sg : Tk} {a : Nat} {t : Nat × Nat} (e : sg[a]? = some t) : sg.drop a = (t.1, t.2) :: sg.drop (a + 1) := by
  obtain ⟨h1, h2⟩ := List.getElem?_eq_some_iff.mp e
  rw [List.drop_eq_getElem_cons h1, h2]
theorem drop_none {sg : Tk} {a : Nat} (e : sg[a]? = none) : sg.drop a = [] := List.drop_eq_nil_iff.mpr (List.getElem?_eq_none_iff.mp e)
theorem nj_some {sg : Tk} {a : Nat} {t : Nat × Nat} (e : sg[a]? = some t) (h : nj (sg.drop a)) : t.1 ≠ 38 ∧ t.1 ≠ 124 := h _ _ _ (drop_some e)
theorem hdp_some {z : Nat} {sg : Tk} {a : Nat} {t : Nat × Nat} (e : sg[a]? = some t) : hdp z sg a = t.2 := by simp only [hdp, e]
theorem lt_some {sg : Tk} {a : Nat} {t : Nat × Nat} (e : sg[a]? = some t) : a < sg.length := (List.getElem?_eq_some_iff.mp e).1
section
local macro_rules | `(tactic| array_get_dec) => `(tactic| first
  | assumption | exact rfl | exact put_get (by assumption) | exact lst_of (by assumption) | exact put_get (put_get (by assumption)))
local macro_rules | `(tactic| sizeOf_list_dec) => `(tactic| first
  | with_reducible first
    | exact val_r | exact valx_r
    | apply bnd_k
    | exact bnd_x
    | exact v_cst | exact v_glo
    | apply v_bin | apply v_cmp | apply v_bo | apply v_ife | apply v_tup | apply v_newl | apply v_ix | apply v_slc | apply v_rev | apply v_att | apply v_call | apply v_callk | apply v_make | apply v_mth | apply v_b1 | apply v_bl | apply v_isi | apply v_join | apply v_ext | apply v_bm | apply v_neg | apply v_not | exact v_dict
    | exact n_nil | apply n_cons | exact n_knil | apply n_kcons | exact o_none | apply o_some | exact c_none | apply c_some
    | apply l_disp | apply l_val | apply l_ref | apply l_list | apply i_seq | apply i_rng1 | apply i_rng2 | apply i_enum
    | exact b_nil | apply b_cons
    | exact x_nil | apply x_cons | apply x_exp | apply x_set | apply x_unp | apply x_par | apply x_fld | apply x_fau | apply x_sub | apply x_ret | exact x_retn | apply x_ife | apply x_loop | exact x_brk | exact x_cnt | exact x_pas | apply x_rai | apply x_try
    | apply seq_nx | exact seq_rt | exact seq_bk | exact seq_ct
    | exact tb_r | exact al_r | exact neg_r | exact int_r
    | exact binop_addI | exact binop_subI | exact cmp_ltI | exact cmp_leI | exact cmp_gtI | exact cmp_geI | exact cmp_eqI | exact cmp_neI | exact cmp_eqS | exact cmp_neS | exact in_S | exact nin_S | exact cmp_isB | exact cmp_isnB | exact cmp_isN | exact cmp_isnN | exact b1_int | exact b1_lenT | exact aug_i | exact aug_s
  | ((with_reducible apply v_var); exact rfl)
  | ((with_reducible apply opt_r); exact rfl)
  | ((with_reducible apply att_r); array_get_dec; exact rfl)
  | ((with_reducible apply mth_r); array_get_dec; exact rfl)
  | ((with_reducible apply fau_r); array_get_dec; exact rfl; exact v_cst; exact aug_i; exact of_decide_eq_true rfl)
  | ((with_reducible apply fau_r); array_get_dec; exact rfl; exact v_cst; exact aug_s; exact of_decide_eq_true rfl)
  | ((with_reducible apply fld_r); array_get_dec; exact of_decide_eq_true rfl; exact rfl)
  | ((with_reducible apply b1L_r); array_get_dec)
  | ((with_reducible apply ixL_r); array_get_dec; array_get_dec)
  | ((with_reducible apply ixT_r); exact rfl)
  | ((with_reducible apply addS_r); (first | exact of_decide_eq_true rfl | assumption | (simp [SZ] <;> omega)))
  | ((with_reducible apply sz_r); (first | exact of_decide_eq_true rfl | assumption | (simp [SZ] <;> omega)))
  | ((with_reducible apply par_r); exact rfl)
  | ((with_reducible apply unp_r); exact rfl)
  | ((with_reducible apply rai_r); exact rfl)
  | with_reducible apply cf_r
  | ((with_reducible apply ite_T); first | with_reducible rfl | assumption | exact decide_eq_true (by first | assumption | omega) | exact nd_T (by first | assumption | omega) | rfl)
  | ((with_reducible apply ite_F); first | with_reducible rfl | assumption | exact decide_eq_false (by first | assumption | omega) | exact nd_F (by first | assumption | omega) | rfl)
  | ((with_reducible apply itA_T); first | with_reducible rfl | assumption)
  | ((with_reducible apply itO_F); first | with_reducible rfl | assumption | exact decide_eq_false (by first | assumption | omega) | exact nd_F (by first | assumption | omega) | rfl)
  | ((with_reducible apply itO_T); first | with_reducible rfl | assumption | exact decide_eq_true (by first | assumption | omega) | exact nd_T (by first | assumption | omega) | rfl)
  | ((with_reducible apply ite_T); exact lstQ_r (by array_get_dec))
  | ((with_reducible apply app_r); array_get_dec; (first | assumption | exact of_decide_eq_true rfl | (simp [SZ] <;> omega)))
  | with_reducible apply bnd_r)
theorem t_ground {d : Nat} (hE : d < 20 → SE (d + 1)) (hd : d ≤ 20) : SG d := by
  intro n h ir il z a sg R hsg hn hh
  obtain ⟨k, rfl⟩ : ∃ k, n = k + 2 := ⟨n - 2, by omega⟩
  have ho := R.o
  cases e : sg[a]? with
  | none =>
    right
    refine ⟨z, mQ, h, ?_, Ext.refl _ _, fun G F hG => by rw [drop_none e]; rfl⟩
    have e40 : ([] : List Nat) ≠ [40] := by decide
    apply enter (fn := f_QuestionReader_ground) (b := b_QuestionReader_ground) (s := [some (.ref ir), none, none]) rfl ⟨rfl, by decide⟩ rfl rfl
    · unfold b_QuestionReader_ground
      repeat sizeOf_list_dec
      exact t_ahead0 R e (by omega)
      repeat sizeOf_list_dec
      exact t_takeX0 R e (by omega)
      repeat sizeOf_list_dec
    · rfl
  | some t =>
    obtain ⟨n1, n2, n3⟩ := hh t e
    by_cases ht : t.1 = 40
    · have e40 : [t.1] = [40] := by rw [ht]
      by_cases d20 : d = 20
      · right
        refine ⟨hdp z sg a, mDeep, h, ?_, Ext.refl _ _, fun G F hG => by rw [drop_some e, ht, hdp_some e]; exact run_er (s_deep (hG.trans d20))⟩
        apply enter (fn := f_QuestionReader_ground) (b := b_QuestionReader_ground) (s := [some (.ref ir), none, none]) rfl ⟨rfl, by decide⟩ rfl rfl
        · unfold b_QuestionReader_ground
          repeat sizeOf_list_dec
          exact t_ahead1 R e (by omega)
          repeat sizeOf_list_dec
          exact t_beginX R d20 (by omega)
          repeat sizeOf_list_dec
        · rfl
      · have R1 := R.step (a + 1) (d + 1)
        have ho1 := R1.o
        have hT : ∀ (G : List Gk) (F : Fr), G.length = d → tRun z (.ask F) G (sg.drop a) = tRun z (.ask F0) (.par F :: G) (sg.drop (a + 1)) := fun G F hG => by
          rw [drop_some e, ht]
          exact run_ok (s_open (by rw [hG]; exact d20))
        rcases hE (by omega) (k + 1) _ ir il z (a + 1) sg R1 hsg (lt_some e) (by omega) with ⟨l, h', q, a', e1, E1, R2, hl2, hq, hw, hs, hj, hP⟩ | ⟨p, m, h', e1, E1, hX⟩
        · have ho2 := R2.o
          have hT2 : ∀ (G : List Gk) (F : Fr), G.length = d → tRun z (.ask F) G (sg.drop a) = tRun z (.behind none q) (.par F :: G) (sg.drop a') := fun G F hG => by rw [hT G F hG, hP _ (by simp [hG])]
          cases e3 : sg[a']? with
          | none =>
            right
            refine ⟨z, mCl, h', ?_, (Ext.put ir h _).trans E1, fun G F hG => by rw [hT2 G F hG, drop_none e3]; rfl⟩
            apply enter (fn := f_QuestionReader_ground) (b := b_QuestionReader_ground) (s := [some (.ref ir), none, none]) rfl ⟨rfl, by decide⟩ rfl rfl
            · unfold b_QuestionReader_ground
              repeat sizeOf_list_dec
              exact t_ahead1 R e (by omega)
              repeat sizeOf_list_dec
              exact t_begin R d20 (by omega)
              repeat sizeOf_list_dec
              exact e1
              repeat sizeOf_list_dec
              exact t_endX0 R2 e3 (by omega)
              repeat sizeOf_list_dec
            · rfl
          | some t2 =>
            obtain ⟨j1, j2⟩ := nj_some e3 hj
            by_cases h41 : t2.1 = 41
            · left
              refine ⟨l, _, q, a' + 1, ?_, ((Ext.put ir h _).trans E1).trans (Ext.put ir h' _), R2.step (a' + 1) d, lt_some e3, hq.ext (Ext.put ir h' _) ho2, hw, by omega, fun G F hG => by
                rw [hT2 G F hG, drop_some e3, h41]
                exact run_ok (s_cl (a := q))⟩
              apply enter (fn := f_QuestionReader_ground) (b := b_QuestionReader_ground) (s := [some (.ref ir), none, none]) rfl ⟨rfl, by decide⟩ rfl rfl
              · unfold b_QuestionReader_ground
                repeat sizeOf_list_dec
                exact t_ahead1 R e (by omega)
                repeat sizeOf_list_dec
                exact t_begin R d20 (by omega)
                repeat sizeOf_list_dec
                exact e1
                repeat sizeOf_list_dec
                exact t_end R2 e3 h41 (by omega)
                repeat sizeOf_list_dec
              · rfl
            · right
              refine ⟨t2.2, mCl, h', ?_, (Ext.put ir h _).trans E1, fun G F hG => by
                rw [hT2 G F hG, drop_some e3]
                exact run_er (s_clE j1 j2 h41)⟩
              apply enter (fn := f_QuestionReader_ground) (b := b_QuestionReader_ground) (s := [some (.ref ir), none, none]) rfl ⟨rfl, by decide⟩ rfl rfl
              · unfold b_QuestionReader_ground
                repeat sizeOf_list_dec
                exact t_ahead1 R e (by omega)
                repeat sizeOf_list_dec
                exact t_begin R d20 (by omega)
                repeat sizeOf_list_dec
                exact e1
                repeat sizeOf_list_dec
                exact t_endX1 R2 e3 h41 (by omega)
                repeat sizeOf_list_dec
              · rfl
        · right
          refine ⟨p, m, h', ?_, (Ext.put ir h _).trans E1, fun G F hG => by rw [hT G F hG]; exact hX _ (by simp [hG])⟩
          apply enter (fn := f_QuestionReader_ground) (b := b_QuestionReader_ground) (s := [some (.ref ir), none, none]) rfl ⟨rfl, by decide⟩ rfl rfl
          · unfold b_QuestionReader_ground
            repeat sizeOf_list_dec
            exact t_ahead1 R e (by omega)
            repeat sizeOf_list_dec
            exact t_begin R d20 (by omega)
            repeat sizeOf_list_dec
            exact e1
            repeat sizeOf_list_dec
          · rfl
    · have e40 : [t.1] ≠ [40] := by intro hc; exact ht (by injection hc)
      by_cases hc : t.1 ∈ names
      · have R1 := R.step (a + 1) d
        have ho1 := R1.o
        have hT1 : ∀ (G : List Gk) (F : Fr), tRun z (.ask F) G (sg.drop a) = tRun z (.sign t.1 F) G (sg.drop (a + 1)) := fun G F => by
          rw [drop_some e]
          exact run_ok (s_nm hc)
        cases e1 : sg[a + 1]? with
        | none =>
          right
          refine ⟨z, mAS, (put h ir (.ins 5 (rdf il z (a + 1) d))), ?_, Ext.put ir h _, fun G F hG => by rw [hT1 G F, drop_none e1]; rfl⟩
          apply enter (fn := f_QuestionReader_ground) (b := b_QuestionReader_ground) (s := [some (.ref ir), none, none]) rfl ⟨rfl, by decide⟩ rfl rfl
          · unfold b_QuestionReader_ground
            repeat sizeOf_list_dec
            exact t_ahead1 R e (by omega)
            repeat sizeOf_list_dec
            exact t_take1 R e hc (by omega)
            repeat sizeOf_list_dec
            exact t_takeX0 R1 e1 (by omega)
            repeat sizeOf_list_dec
          · rfl
        | some t1 =>
          by_cases h64 : t1.1 = 64
          · have e64 : [t1.1] = [64] := by rw [h64]
            have R2 := R1.step (a + 1 + 1) d
            have ho2 := R2.o
            have hT2 : ∀ (G : List Gk) (F : Fr), tRun z (.ask F) G (sg.drop a) = tRun z (.place t.1 F) G (sg.drop (a + 1 + 1)) := fun G F => by
              rw [hT1 G F, drop_some e1, h64]
              exact run_ok s_as64
            cases e2 : sg[a + 1 + 1]? with
            | none =>
              right
              refine ⟨z, mPl, (put (put h ir (.ins 5 (rdf il z (a + 1) d))) ir (.ins 5 (rdf il z (a + 1 + 1) d))), ?_, (Ext.put ir h _).trans (Ext.put ir _ _), fun G F hG => by rw [hT2 G F, drop_none e2]; rfl⟩
              apply enter (fn := f_QuestionReader_ground) (b := b_QuestionReader_ground) (s := [some (.ref ir), none, none]) rfl ⟨rfl, by decide⟩ rfl rfl
              · unfold b_QuestionReader_ground
                repeat sizeOf_list_dec
                exact t_ahead1 R e (by omega)
                repeat sizeOf_list_dec
                exact t_take1 R e hc (by omega)
                repeat sizeOf_list_dec
                exact t_take1 R1 e1 (by rw [h64]; decide) (by omega)
                repeat sizeOf_list_dec
                exact t_takeX0 R2 e2 (by omega)
                repeat sizeOf_list_dec
              · rfl
            | some t2 =>
              by_cases h2 : t2.1 ∈ digits
              · left
                have R3 := R2.step (a + 1 + 1 + 1) d
                have ho3 := R3.o
                refine ⟨_, (put (put (put h ir (.ins 5 (rdf il z (a + 1) d))) ir (.ins 5 (rdf il z (a + 1 + 1) d))) ir (.ins 5 (rdf il z (a + 1 + 1 + 1) d))) ++ [O.lst []] ++ [nd FA [t.1, 64, t2.1] (put (put (put h ir (.ins 5 (rdf il z (a + 1) d))) ir (.ins 5 (rdf il z (a + 1 + 1) d))) ir (.ins 5 (rdf il z (a + 1 + 1 + 1) d))).length], .fact [t.1, 64, t2.1], a + 1 + 1 + 1, ?_, ((((Ext.put ir h _).trans (Ext.put ir _ _)).trans (Ext.put ir _ _)).trans (Gr.ext ir (Gr.app [O.lst []]))).trans (Gr.ext ir (Gr.app [nd FA [t.1, 64, t2.1] _])), (R3.gr (Gr.app _)).gr (Gr.app _), lt_some e2, ⟨_, get_new, (Gr.app _).get get_new⟩, rfl, by simp only [sz]; omega, fun G F hG => by
                  rw [hT2 G F, drop_some e2]
                  exact run_ok (s_pl h2)⟩
                apply enter (fn := f_QuestionReader_ground) (b := b_QuestionReader_ground) (s := [some (.ref ir), none, none]) rfl ⟨rfl, by decide⟩ rfl rfl
                · unfold b_QuestionReader_ground
                  repeat sizeOf_list_dec
                  exact t_ahead1 R e (by omega)
                  repeat sizeOf_list_dec
                  exact t_take1 R e hc (by omega)
                  repeat sizeOf_list_dec
                  exact t_take1 R1 e1 (by rw [h64]; decide) (by omega)
                  repeat sizeOf_list_dec
                  exact t_take1 R2 e2 h2 (by omega)
                  repeat sizeOf_list_dec
                  exact mk_r (by omega)
                  repeat sizeOf_list_dec
                · rfl
              · right
                refine ⟨t2.2, mPl, (put (put h ir (.ins 5 (rdf il z (a + 1) d))) ir (.ins 5 (rdf il z (a + 1 + 1) d))), ?_, (Ext.put ir h _).trans (Ext.put ir _ _), fun G F hG => by
                  rw [hT2 G F, drop_some e2]
                  exact run_er (s_plE h2)⟩
                apply enter (fn := f_QuestionReader_ground) (b := b_QuestionReader_ground) (s := [some (.ref ir), none, none]) rfl ⟨rfl, by decide⟩ rfl rfl
                · unfold b_QuestionReader_ground
                  repeat sizeOf_list_dec
                  exact t_ahead1 R e (by omega)
                  repeat sizeOf_list_dec
                  exact t_take1 R e hc (by omega)
                  repeat sizeOf_list_dec
                  exact t_take1 R1 e1 (by rw [h64]; decide) (by omega)
                  repeat sizeOf_list_dec
                  exact t_takeX1 R2 e2 h2 (by omega)
                  repeat sizeOf_list_dec
                · rfl
          · by_cases h61 : t1.1 = 61
            · have e64 : [t1.1] ≠ [64] := by intro hc; exact h64 (by injection hc)
              have R2 := R1.step (a + 1 + 1) d
              have ho2 := R2.o
              have hT2 : ∀ (G : List Gk) (F : Fr), tRun z (.ask F) G (sg.drop a) = tRun z (.name t.1 F) G (sg.drop (a + 1 + 1)) := fun G F => by
                rw [hT1 G F, drop_some e1, h61]
                exact run_ok s_as61
              cases e2 : sg[a + 1 + 1]? with
              | none =>
                right
                refine ⟨z, mNm, (put (put h ir (.ins 5 (rdf il z (a + 1) d))) ir (.ins 5 (rdf il z (a + 1 + 1) d))), ?_, (Ext.put ir h _).trans (Ext.put ir _ _), fun G F hG => by rw [hT2 G F, drop_none e2]; rfl⟩
                apply enter (fn := f_QuestionReader_ground) (b := b_QuestionReader_ground) (s := [some (.ref ir), none, none]) rfl ⟨rfl, by decide⟩ rfl rfl
                · unfold b_QuestionReader_ground
                  repeat sizeOf_list_dec
                  exact t_ahead1 R e (by omega)
                  repeat sizeOf_list_dec
                  exact t_take1 R e hc (by omega)
                  repeat sizeOf_list_dec
                  exact t_take1 R1 e1 (by rw [h61]; decide) (by omega)
                  repeat sizeOf_list_dec
                  exact t_takeX0 R2 e2 (by omega)
                  repeat sizeOf_list_dec
                · rfl
              | some t2 =>
                by_cases h2 : t2.1 ∈ names
                · left
                  have R3 := R2.step (a + 1 + 1 + 1) d
                  have ho3 := R3.o
                  refine ⟨_, (put (put (put h ir (.ins 5 (rdf il z (a + 1) d))) ir (.ins 5 (rdf il z (a + 1 + 1) d))) ir (.ins 5 (rdf il z (a + 1 + 1 + 1) d))) ++ [O.lst []] ++ [nd FA [t.1, 61, t2.1] (put (put (put h ir (.ins 5 (rdf il z (a + 1) d))) ir (.ins 5 (rdf il z (a + 1 + 1) d))) ir (.ins 5 (rdf il z (a + 1 + 1 + 1) d))).length], .fact [t.1, 61, t2.1], a + 1 + 1 + 1, ?_, ((((Ext.put ir h _).trans (Ext.put ir _ _)).trans (Ext.put ir _ _)).trans (Gr.ext ir (Gr.app [O.lst []]))).trans (Gr.ext ir (Gr.app [nd FA [t.1, 61, t2.1] _])), (R3.gr (Gr.app _)).gr (Gr.app _), lt_some e2, ⟨_, get_new, (Gr.app _).get get_new⟩, rfl, by simp only [sz]; omega, fun G F hG => by
                    rw [hT2 G F, drop_some e2]
                    exact run_ok (s_na h2)⟩
                  apply enter (fn := f_QuestionReader_ground) (b := b_QuestionReader_ground) (s := [some (.ref ir), none, none]) rfl ⟨rfl, by decide⟩ rfl rfl
                  · unfold b_QuestionReader_ground
                    repeat sizeOf_list_dec
                    exact t_ahead1 R e (by omega)
                    repeat sizeOf_list_dec
                    exact t_take1 R e hc (by omega)
                    repeat sizeOf_list_dec
                    exact t_take1 R1 e1 (by rw [h61]; decide) (by omega)
                    repeat sizeOf_list_dec
                    exact t_take1 R2 e2 h2 (by omega)
                    repeat sizeOf_list_dec
                    exact mk_r (by omega)
                    repeat sizeOf_list_dec
                  · rfl
                · right
                  refine ⟨t2.2, mNm, (put (put h ir (.ins 5 (rdf il z (a + 1) d))) ir (.ins 5 (rdf il z (a + 1 + 1) d))), ?_, (Ext.put ir h _).trans (Ext.put ir _ _), fun G F hG => by
                    rw [hT2 G F, drop_some e2]
                    exact run_er (s_naE h2)⟩
                  apply enter (fn := f_QuestionReader_ground) (b := b_QuestionReader_ground) (s := [some (.ref ir), none, none]) rfl ⟨rfl, by decide⟩ rfl rfl
                  · unfold b_QuestionReader_ground
                    repeat sizeOf_list_dec
                    exact t_ahead1 R e (by omega)
                    repeat sizeOf_list_dec
                    exact t_take1 R e hc (by omega)
                    repeat sizeOf_list_dec
                    exact t_take1 R1 e1 (by rw [h61]; decide) (by omega)
                    repeat sizeOf_list_dec
                    exact t_takeX1 R2 e2 h2 (by omega)
                    repeat sizeOf_list_dec
                  · rfl
            · have hn1 : t1.1 ∉ [64, 61] := by
                intro hm
                rcases List.mem_cons.mp hm with hm | hm
                · exact h64 hm
                · exact h61 (List.mem_singleton.mp hm)
              right
              refine ⟨t1.2, mAS, (put h ir (.ins 5 (rdf il z (a + 1) d))), ?_, Ext.put ir h _, fun G F hG => by
                rw [hT1 G F, drop_some e1]
                exact run_er (s_asE hn1)⟩
              apply enter (fn := f_QuestionReader_ground) (b := b_QuestionReader_ground) (s := [some (.ref ir), none, none]) rfl ⟨rfl, by decide⟩ rfl rfl
              · unfold b_QuestionReader_ground
                repeat sizeOf_list_dec
                exact t_ahead1 R e (by omega)
                repeat sizeOf_list_dec
                exact t_take1 R e hc (by omega)
                repeat sizeOf_list_dec
                exact t_takeX1 R1 e1 hn1 (by omega)
                repeat sizeOf_list_dec
              · rfl
      · right
        refine ⟨t.2, mQ, h, ?_, Ext.refl _ _, fun G F hG => by
          rw [drop_some e]
          exact run_er (s_q ht n2 n3 n1 hc)⟩
        apply enter (fn := f_QuestionReader_ground) (b := b_QuestionReader_ground) (s := [some (.ref ir), none, none]) rfl ⟨rfl, by decide⟩ rfl rfl
        · unfold b_QuestionReader_ground
          repeat sizeOf_list_dec
          exact t_ahead1 R e (by omega)
          repeat sizeOf_list_dec
          exact t_takeX1 R e hc (by omega)
          repeat sizeOf_list_dec
        · rfl
end
end P35

namespace P35
open PySem Mx Q35
section
local macro_rules | `(tactic| array_get_dec) => `(tactic| first
  | assumption | exact rfl | exact put_get (by assumption) | exact lst_of (by assumption) | exact put_get (put_get (by assumption)))
local macro_rules | `(tactic| sizeOf_list_dec) => `(tactic| first
  | with_reducible first
    | exact val_r | exact valx_r
    | apply bnd_k
    | exact bnd_x
    | exact v_cst | exact v_glo
    | apply v_bin | apply v_cmp | apply v_bo | apply v_ife | apply v_tup | apply v_newl | apply v_ix | apply v_slc | apply v_rev | apply v_att | apply v_call | apply v_callk | apply v_make | apply v_mth | apply v_b1 | apply v_bl | apply v_isi | apply v_join | apply v_ext | apply v_bm | apply v_neg | apply v_not | exact v_dict
    | exact n_nil | apply n_cons | exact n_knil | apply n_kcons | exact o_none | apply o_some | exact c_none | apply c_some
    | apply l_disp | apply l_val | apply l_ref | apply l_list | apply i_seq | apply i_rng1 | apply i_rng2 | apply i_enum
    | exact b_nil | apply b_cons
    | exact x_nil | apply x_cons | apply x_exp | apply x_set | apply x_unp | apply x_par | apply x_fld | apply x_fau | apply x_sub | apply x_ret | exact x_retn | apply x_ife | apply x_loop | exact x_brk | exact x_cnt | exact x_pas | apply x_rai | apply x_try
    | apply seq_nx | exact seq_rt | exact seq_bk | exact seq_ct
    | exact tb_r | exact al_r | exact neg_r | exact int_r
    | exact binop_addI | exact binop_subI | exact cmp_ltI | exact cmp_leI | exact cmp_gtI | exact cmp_geI | exact cmp_eqI | exact cmp_neI | exact cmp_eqS | exact cmp_neS | exact in_S | exact nin_S | exact cmp_isB | exact cmp_isnB | exact cmp_isN | exact cmp_isnN | exact b1_int | exact b1_lenT | exact aug_i | exact aug_s
  | ((with_reducible apply v_var); exact rfl)
  | ((with_reducible apply opt_r); exact rfl)
  | ((with_reducible apply att_r); array_get_dec; exact rfl)
  | ((with_reducible apply mth_r); array_get_dec; exact rfl)
  | ((with_reducible apply fau_r); array_get_dec; exact rfl; exact v_cst; exact aug_i; exact of_decide_eq_true rfl)
  | ((with_reducible apply fau_r); array_get_dec; exact rfl; exact v_cst; exact aug_s; exact of_decide_eq_true rfl)
  | ((with_reducible apply fld_r); array_get_dec; exact of_decide_eq_true rfl; exact rfl)
  | ((with_reducible apply b1L_r); array_get_dec)
  | ((with_reducible apply ixL_r); array_get_dec; array_get_dec)
  | ((with_reducible apply ixT_r); exact rfl)
  | ((with_reducible apply addS_r); (first | exact of_decide_eq_true rfl | assumption | (simp [SZ] <;> omega)))
  | ((with_reducible apply sz_r); (first | exact of_decide_eq_true rfl | assumption | (simp [SZ] <;> omega)))
  | ((with_reducible apply par_r); exact rfl)
  | ((with_reducible apply unp_r); exact rfl)
  | ((with_reducible apply rai_r); exact rfl)
  | with_reducible apply cf_r
  | ((with_reducible apply ite_T); first | with_reducible rfl | assumption | exact decide_eq_true (by first | assumption | omega) | exact nd_T (by first | assumption | omega) | rfl)
  | ((with_reducible apply ite_F); first | with_reducible rfl | assumption | exact decide_eq_false (by first | assumption | omega) | exact nd_F (by first | assumption | omega) | rfl)
  | ((with_reducible apply itA_T); first | with_reducible rfl | assumption)
  | ((with_reducible apply itO_F); first | with_reducible rfl | assumption | exact decide_eq_false (by first | assumption | omega) | exact nd_F (by first | assumption | omega) | rfl)
  | ((with_reducible apply itO_T); first | with_reducible rfl | assumption | exact decide_eq_true (by first | assumption | omega) | exact nd_T (by first | assumption | omega) | rfl)
  | ((with_reducible apply ite_T); exact lstQ_r (by array_get_dec))
  | ((with_reducible apply app_r); array_get_dec; (first | assumption | exact of_decide_eq_true rfl | (simp [SZ] <;> omega)))
  | with_reducible apply bnd_r)
theorem t_until {d : Nat} (hE : d < 20 → SE (d + 1)) (hd : d ≤ 20) : SU d := by
  intro n h ir il z a s sg p R hsg hn hs e
  obtain ⟨k, rfl⟩ : ∃ k, n = k + 2 := ⟨n - 2, by omega⟩
  have ho := R.o
  by_cases d20 : d = 20
  · right
    refine ⟨hdp z sg a, mDeep, h, ?_, Ext.refl _ _, fun G F hG => by rw [drop_some e, hdp_some e]; exact run_er (s_udeep (hG.trans d20))⟩
    apply enter (fn := f_QuestionReader_until) (b := b_QuestionReader_until) (s := [some (.ref ir), some (.str [s]), none, none]) rfl ⟨rfl, by decide⟩ rfl rfl
    · unfold b_QuestionReader_until
      repeat sizeOf_list_dec
      exact t_beginX R d20 (by omega)
      repeat sizeOf_list_dec
    · rfl
  · have R1 := R.step (a + 1) (d + 1)
    have ho1 := R1.o
    have hT : ∀ (G : List Gk) (F : Fr), G.length = d → tRun z (.step s F) G (sg.drop a) = tRun z (.ask F0) (.u1 s F :: G) (sg.drop (a + 1)) := fun G F hG => by
      rw [drop_some e]
      exact run_ok (s_uopen (by rw [hG]; exact d20))
    rcases hE (by omega) (k + 1) _ ir il z (a + 1) sg R1 hsg (lt_some e) (by omega) with ⟨l, h1, q, a1, e1, E1, R2, hl2, hq, hw, hs1, hj, hP⟩ | ⟨p, m, h1, e1, E1, hX⟩
    · have ho2 := R2.o
      have hT2 : ∀ (G : List Gk) (F : Fr), G.length = d → tRun z (.step s F) G (sg.drop a) = tRun z (.behind none q) (.u1 s F :: G) (sg.drop a1) := fun G F hG => by rw [hT G F hG, hP _ (by simp [hG])]
      have EE := (Ext.put ir h _).trans E1
      cases e3 : sg[a1]? with
      | none =>
        right
        refine ⟨z, mU, h1, ?_, EE, fun G F hG => by rw [hT2 G F hG, drop_none e3]; rfl⟩
        apply enter (fn := f_QuestionReader_until) (b := b_QuestionReader_until) (s := [some (.ref ir), some (.str [s]), none, none]) rfl ⟨rfl, by decide⟩ rfl rfl
        · unfold b_QuestionReader_until
          repeat sizeOf_list_dec
          exact t_begin R d20 (by omega)
          repeat sizeOf_list_dec
          exact e1
          repeat sizeOf_list_dec
          exact t_takeX0 R2 e3 (by omega)
          repeat sizeOf_list_dec
        · rfl
      | some t2 =>
        obtain ⟨j1, j2⟩ := nj_some e3 hj
        by_cases h85 : t2.1 = 85
        · have hm : t2.1 ∈ [85] := by rw [h85]; decide
          have R3 := R2.step (a1 + 1) (d + 1)
          have ho3 := R3.o
          have hT3 : ∀ (G : List Gk) (F : Fr), G.length = d → tRun z (.step s F) G (sg.drop a) = tRun z (.ask F0) (.u2 s q F :: G) (sg.drop (a1 + 1)) := fun G F hG => by
            rw [hT2 G F hG, drop_some e3, h85]
            exact run_ok s_U
          rcases hE (by omega) (k + 1) _ ir il z (a1 + 1) sg R3 hsg (lt_some e3) (by omega) with ⟨l2, h2, q2, a2, e2, E2, R4, hl4, hq2, hw2, hs2, hj2, hP2⟩ | ⟨p, m, h2, e2, E2, hX⟩
          · have E3 : Ext ir h1 h2 := (Ext.put ir h1 _).trans E2
            have G1 : Gr h2 (h2 ++ [.lst [.ref l, .ref l2]]) := Gr.app _
            have G2 : Gr (h2 ++ [O.lst [.ref l, .ref l2]]) (h2 ++ [.lst [.ref l, .ref l2]] ++ [nd [s, 85] [] h2.length]) := Gr.app _
            have GG := G1.trans G2
            have R5 := R4.gr GG
            have ho5 : (h2 ++ [.lst [.ref l, .ref l2]] ++ [.ins 4 [(0, .str ([s] ++ [85])), (14, .str []), (2, .ref h2.length)]])[ir]? = some (.ins 5 (rdf il z a2 (d + 1))) := R5.o
            have hT4 : ∀ (G : List Gk) (F : Fr), G.length = d → tRun z (.step s F) G (sg.drop a) = tRun z (.behind none q2) (.u2 s q F :: G) (sg.drop a2) := fun G F hG => by rw [hT3 G F hG, hP2 _ (by simp [hG])]
            have E5 : Ext ir h (h2 ++ [.lst [.ref l, .ref l2]] ++ [nd [s, 85] [] h2.length]) := (EE.trans E3).trans (Gr.ext ir GG)
            have hq5 : QAt (h2 ++ [.lst [.ref l, .ref l2]] ++ [nd [s, 85] [] h2.length]) (.op2 [s, 85] q q2) (h2 ++ [O.lst [.ref l, .ref l2]]).length := ⟨h2.length, l, l2, get_new, G2.get get_new, (hq.ext E3 ho2).gr GG, hq2.gr GG⟩
            cases e4 : sg[a2]? with
            | none =>
              right
              refine ⟨z, mCl, _, ?_, E5, fun G F hG => by rw [hT4 G F hG, drop_none e4]; rfl⟩
              apply enter (fn := f_QuestionReader_until) (b := b_QuestionReader_until) (s := [some (.ref ir), some (.str [s]), none, none]) rfl ⟨rfl, by decide⟩ rfl rfl
              · unfold b_QuestionReader_until
                repeat sizeOf_list_dec
                exact t_begin R d20 (by omega)
                repeat sizeOf_list_dec
                exact e1
                repeat sizeOf_list_dec
                exact t_take1 R2 e3 hm (by omega)
                repeat sizeOf_list_dec
                exact e2
                repeat sizeOf_list_dec
                exact mk_r (by omega)
                repeat sizeOf_list_dec
                exact t_endX0 R5 e4 (by omega)
                repeat sizeOf_list_dec
              · rfl
            | some t4 =>
              obtain ⟨j3, j4⟩ := nj_some e4 hj2
              by_cases h41 : t4.1 = 41
              · left
                refine ⟨_, _, .op2 [s, 85] q q2, a2 + 1, ?_, E5.trans (Ext.put ir _ _), R5.step (a2 + 1) d, lt_some e4, hq5.ext (Ext.put ir _ _) R5.o, ⟨by rcases hs with h | h <;> subst h <;> simp, hw, hw2⟩, by simp only [sz]; omega, fun G F hG => by
                  rw [hT4 G F hG, drop_some e4, h41]
                  exact run_ok s_cl2⟩
                apply enter (fn := f_QuestionReader_until) (b := b_QuestionReader_until) (s := [some (.ref ir), some (.str [s]), none, none]) rfl ⟨rfl, by decide⟩ rfl rfl
                · unfold b_QuestionReader_until
                  repeat sizeOf_list_dec
                  exact t_begin R d20 (by omega)
                  repeat sizeOf_list_dec
                  exact e1
                  repeat sizeOf_list_dec
                  exact t_take1 R2 e3 hm (by omega)
                  repeat sizeOf_list_dec
                  exact e2
                  repeat sizeOf_list_dec
                  exact mk_r (by omega)
                  repeat sizeOf_list_dec
                  exact t_end R5 e4 h41 (by omega)
                  repeat sizeOf_list_dec
                · rfl
              · right
                refine ⟨t4.2, mCl, _, ?_, E5, fun G F hG => by
                  rw [hT4 G F hG, drop_some e4]
                  exact run_er (s_cl2E j3 j4 h41)⟩
                apply enter (fn := f_QuestionReader_until) (b := b_QuestionReader_until) (s := [some (.ref ir), some (.str [s]), none, none]) rfl ⟨rfl, by decide⟩ rfl rfl
                · unfold b_QuestionReader_until
                  repeat sizeOf_list_dec
                  exact t_begin R d20 (by omega)
                  repeat sizeOf_list_dec
                  exact e1
                  repeat sizeOf_list_dec
                  exact t_take1 R2 e3 hm (by omega)
                  repeat sizeOf_list_dec
                  exact e2
                  repeat sizeOf_list_dec
                  exact mk_r (by omega)
                  repeat sizeOf_list_dec
                  exact t_endX1 R5 e4 h41 (by omega)
                  repeat sizeOf_list_dec
                · rfl
          · right
            refine ⟨p, m, h2, ?_, (EE.trans (Ext.put ir h1 _)).trans E2, fun G F hG => by rw [hT3 G F hG]; exact hX _ (by simp [hG])⟩
            apply enter (fn := f_QuestionReader_until) (b := b_QuestionReader_until) (s := [some (.ref ir), some (.str [s]), none, none]) rfl ⟨rfl, by decide⟩ rfl rfl
            · unfold b_QuestionReader_until
              repeat sizeOf_list_dec
              exact t_begin R d20 (by omega)
              repeat sizeOf_list_dec
              exact e1
              repeat sizeOf_list_dec
              exact t_take1 R2 e3 hm (by omega)
              repeat sizeOf_list_dec
              exact e2
              repeat sizeOf_list_dec
            · rfl
        · right
          refine ⟨t2.2, mU, h1, ?_, EE, fun G F hG => by
            rw [hT2 G F hG, drop_some e3]
            exact run_er (s_UE j1 j2 h85)⟩
          apply enter (fn := f_QuestionReader_until) (b := b_QuestionReader_until) (s := [some (.ref ir), some (.str [s]), none, none]) rfl ⟨rfl, by decide⟩ rfl rfl
          · unfold b_QuestionReader_until
            repeat sizeOf_list_dec
            exact t_begin R d20 (by omega)
            repeat sizeOf_list_dec
            exact e1
            repeat sizeOf_list_dec
            exact t_takeX1 R2 e3 (by intro hm; exact h85 (List.mem_singleton.mp hm)) (by omega)
            repeat sizeOf_list_dec
          · rfl
    · right
      refine ⟨p, m, h1, ?_, (Ext.put ir h _).trans E1, fun G F hG => by rw [hT G F hG]; exact hX _ (by simp [hG])⟩
      apply enter (fn := f_QuestionReader_until) (b := b_QuestionReader_until) (s := [some (.ref ir), some (.str [s]), none, none]) rfl ⟨rfl, by decide⟩ rfl rfl
      · unfold b_QuestionReader_until
        repeat sizeOf_list_dec
        exact t_begin R d20 (by omega)
        repeat sizeOf_list_dec
        exact e1
        repeat sizeOf_list_dec
      · rfl
end
end P35

namespace P35
open PySem Mx Q35
theorem w_enter {k f : Nat} {fn : Fn} {b : S} {s : Sl} {args : List D} {h : AH} {Q : D → AH → Prop} {X : Nat → Fs → AH → Prop} (hf : fnl.lookup f = some fn) (hl : args.length = fn.np ∧ fn.np ≤ fn.n) (hb : fn.body = b) (hs : sl0 fn args = s) (e : exW (Fk k) xf b s h (endK Q) X) : Wp (call prog (k + 2) f args h) Q X := by
  rw [run2 k f fn hf args h hl.1 hl.2, hb, hs]
  have e := exW_ok _ _ _ e
  cases e1 : ex (Fk k) xf b s h with
  | ok f h1 =>
    rw [e1] at e
    have := e.h
    cases f with
    | nx s => exact ⟨this⟩
    | rt d => exact ⟨this⟩
    | bk s => exact this.elim
    | ct s => exact this.elim
  | ex c fs h1 => rw [e1] at e; exact ⟨e.h⟩
  | no => rw [e1] at e; exact e.h.elim
/-- a flaw -/
def flw (h : AH) (ir : Nat) (Z : Nat → List Nat → Prop) : Nat → Fs → AH → Prop := fun c fs h' => c = 1 ∧ Ext ir h h' ∧ ∃ p m, fs = [(18, .int (p : Nat)), (19, .str m)] ∧ Z p m
theorem flw_mono {h h1 : AH} {ir : Nat} {Z Z1 : Nat → List Nat → Prop} (E : Ext ir h h1) (hz : ∀ p m, Z1 p m → Z p m) : ∀ c fs h', flw h1 ir Z1 c fs h' → flw h ir Z c fs h' := by
  rintro c fs h' ⟨rfl, E2, p, m, rfl, z⟩
  exact ⟨rfl, E.trans E2, p, m, rfl, hz p m z⟩
/-- a question that is read -/
def got (h : AH) (ir il z a d : Nat) (sg : Tk) (P : QT → Nat → Prop) : D → AH → Prop := fun v h' => ∃ l q a', v = .ref l ∧ Ext ir h h' ∧ Rd h' ir il sg z a' d ∧ a' ≤ sg.length ∧ QAt h' q l ∧ QW q ∧ sz q + a ≤ a' ∧ P q a'
theorem PR.wp {r : Rs D} {h : AH} {ir il z a d : Nat} {sg : Tk} {P : QT → Nat → Prop} {X : Nat → List Nat → Prop} (H : PR r h ir il z a d sg P X) : Wp r (got h ir il z a d sg P) (flw h ir X) := by
  rcases H with ⟨l, h', q, a', e, E, R, hl, hq, hw, hs, hp⟩ | ⟨p, m, h', e, E, hx⟩
  · exact w_eqo e ⟨l, q, a', rfl, E, R, hl, hq, hw, hs, hp⟩
  · exact w_eqx e ⟨rfl, E, p, m, rfl, hx⟩
theorem PR.of {r : Rs D} {h : AH} {ir il z a d : Nat} {sg : Tk} {P : QT → Nat → Prop} {X : Nat → List Nat → Prop} (H : Wp r (got h ir il z a d sg P) (flw h ir X)) : PR r h ir il z a d sg P X := by
  cases e : r with
  | ok v h' =>
    rw [e] at H
    obtain ⟨l, q, a', rfl, E, R, hl, hq, hw, hs, hp⟩ := H.h
    exact .inl ⟨l, h', q, a', rfl, E, R, hl, hq, hw, hs, hp⟩
  | ex c fs h' =>
    rw [e] at H
    obtain ⟨rfl, E, p, m, rfl, hx⟩ := H.h
    exact .inr ⟨p, m, h', rfl, E, hx⟩
  | no => rw [e] at H; exact H.h.elim
section
local macro_rules | `(tactic| walk_at "n") => `(tactic| first | assumption | (apply Ne.symm; assumption) | omega | (exact kin_ne (by assumption) (by assumption) (by simp)))
local macro_rules | `(tactic| walk_at "o") => `(tactic| first
  | with_reducible assumption
  | with_reducible exact get_new
  | ((with_reducible apply put_get); walk_at "o")
  | ((with_reducible apply put_ne2); walk_at "n"; walk_at "o")
  | ((with_reducible apply app_get); walk_at "o"))
local macro_rules | `(tactic| walk_at "h") => `(tactic| first
  | with_reducible assumption
  | ((with_reducible apply lst_of); walk_at "o")
  | ((with_reducible apply lst_app); walk_at "h")
  | ((with_reducible apply lst_put2); walk_at "n"; walk_at "h")
  | walk_at "o")
local macro_rules | `(tactic| walk_at "z") => `(tactic| first | assumption | (simp only [List.length_append, List.length_cons, List.length_nil, List.length_map, SZ]; omega) | (simp [SZ] <;> omega))
local macro_rules | `(tactic| walk_at "T") => `(tactic| first | assumption | exact decide_eq_true rfl | exact decide_eq_true (by first | assumption | omega) | exact nd_T (by first | assumption | omega) | decide)
local macro_rules | `(tactic| walk_at "F") => `(tactic| first | assumption | exact nd_F rfl | exact decide_eq_false (by first | assumption | omega) | exact nd_F (by first | assumption | omega) | decide)
local macro_rules | `(tactic| walk_at "r") => `(tactic| first
  | ((with_reducible refine (show gdW _ _ from ?_)); first | refine sc_mk (by walk_at "z") ?_ | refine gd_mk (by walk_at "T") ?_)
  | ((with_reducible refine (show brW _ _ _ from ?_)); first | refine br_T (by walk_at "T") ?_ | refine br_F (by walk_at "F") ?_)
  | ((with_reducible refine (show LkF _ _ _ _ from ?_)); refine LkF.mk (by walk_at "h") (by exact rfl) ?_)
  | ((with_reducible refine (show LkC _ _ _ from ?_)); refine LkC.mk (by walk_at "h") ?_)
  | ((with_reducible refine (show LkL _ _ _ from ?_)); refine LkL.mk (by walk_at "h") ?_)
  | ((with_reducible refine (show LkM _ _ _ from ?_)); refine LkM.mk (by walk_at "h") ?_)
  | ((with_reducible refine (show LkO _ _ from ?_)); refine LkO.mk (tru_L (by walk_at "h")) ?_)
  | ((with_reducible refine (show optW _ _ from ?_)); refine opt_mk (by assumption) ?_)
  | ((with_reducible refine (show Gd _ _ from ?_)); first | refine Gd.mk (bmty_app (by walk_at "h")) ?_ | refine Gd.mk (lstQ_r (by walk_at "h")) ?_ | refine Gd.mk (small_i (by omega) (by omega)) ?_ | refine Gd.mk (small_2 (by omega) (by omega) (by omega) (by omega)) ?_ | refine Gd.mk (by first | assumption | omega | decide) ?_)
  | ((with_reducible refine (show Wp (fauK _ _ _ _ _ _ _) _ _ from ?_)); refine w_fauC (by walk_at "h") rfl (of_decide_eq_true rfl) ?_)
  | ((with_reducible refine (show Wp (fldK _ _ _ _ _ _) _ _ from ?_)); refine w_fldK (by walk_at "h") (of_decide_eq_true rfl) rfl ?_)
  | ((with_reducible refine (show Wp (ixop _ _ _) _ _ from ?_)); refine w_ixL (by walk_at "h") ?_)
  | ((with_reducible refine (show Wp (b1op _ _ _) _ _ from ?_)); refine w_lenL (by walk_at "h") ?_)
  | ((with_reducible refine (show Wp (bmop _ _ _ _) _ _ from ?_)); refine w_app (by walk_at "h") (by walk_at "z") ?_)
  | ((with_reducible refine (show Wp (revop _ _) _ _ from ?_)); refine w_revL (by walk_at "h") ?_)
  | ((with_reducible refine (show Wp (slcop _ _ _ _) _ _ from ?_)); refine w_slcL (by walk_at "h") ?_)
  | ((with_reducible refine (show Wp (setop _ _ _ _) _ _ from ?_)); refine w_setL (by walk_at "h") ?_)
  | with_reducible refine exW_ok _ _ _ ?_
  | with_reducible refine (evW_ok _ _).v ?_
  | with_reducible refine (evW_ok _ _).c ?_)
local macro_rules | `(tactic| walk_at "s") => `(tactic| (walk_at "r"; conv => whnf))
local macro_rules | `(tactic| walk_at "g") => `(tactic| ((conv => whnf); repeat walk_at "s"))
variable {h : AH} {ir il z a d n : Nat} {sg : Tk} {t : Nat × Nat} {m s : List Nat} {Q : D → AH → Prop} {X : Nat → Fs → AH → Prop}
theorem wt_ahead (R : Rd h ir il sg z a d) (hn : 2 ≤ n) (q : Q (.str (hd1 sg a)) h) : Wp (call prog n 5 [.ref ir] h) Q X := w_eqo (t_ahead R hn) q
theorem wt_fail (R : Rd h ir il sg z a d) (hn : 2 ≤ n) (x : X 1 [(18, .int (hdp z sg a)), (19, .str m)] h) : Wp (call prog n 6 [.ref ir, .str m] h) Q X := w_eqx (t_fail R hn) x
theorem wt_take (R : Rd h ir il sg z a d) (hn : 4 ≤ n) (q : ∀ c p, sg[a]? = some (c, p) → c ∈ s → Rd (put h ir (.ins 5 (rdf il z (a + 1) d))) ir il sg z (a + 1) d → Q (.str [c]) (put h ir (.ins 5 (rdf il z (a + 1) d)))) (x : (∀ c p, sg[a]? = some (c, p) → c ∉ s) → X 1 [(18, .int (hdp z sg a)), (19, .str m)] h) : Wp (call prog n 7 [.ref ir, .str s, .str m] h) Q X := by
  cases e : sg[a]? with
  | none => refine w_eqx (t_takeX0 R e hn) ?_; rw [hdp, e] at x; exact x (by intro c p e2; cases e2)
  | some t =>
    by_cases ht : t.1 ∈ s
    · exact w_eqo (t_take1 R e ht hn) (q t.1 t.2 e ht (R.step _ _))
    · refine w_eqx (t_takeX1 R e ht hn) ?_
      rw [hdp, e] at x
      exact x (by intro c p e2; cases e2; exact ht)
theorem hd_cases (P : List Nat → Prop) (h0 : sg[a]? = none → P []) (h1 : ∀ c p, sg[a]? = some (c, p) → P [c]) : P (hd1 sg a) := by
  cases e : sg[a]? with
  | none => rw [hd_none e]; exact h0 e
  | some t => rw [hd_some e]; exact h1 t.1 t.2 e
end
end P35

namespace P35
open PySem Mx Q35
def SS (d : Nat) : Prop := ∀ (n : Nat) (h : AH) (ir il z a : Nat) (sg : Tk), Rd h ir il sg z a d → sg.length ≤ 200 → a ≤ sg.length → 4 * (20 - d) + 10 ≤ n → Wp (call prog n 18 [.ref ir] h) (got h ir il z a d sg (fun q a' => ∀ (G : List Gk) (o1 o2 : Option QT), G.length = d → tRun z (.ask ⟨o1, o2, []⟩) G (sg.drop a) = tRun z (.behind o1 (andq o2 q)) G (sg.drop a'))) (flw h ir fun p m => ∀ (G : List Gk) (o1 o2 : Option QT), G.length = d → tRun z (.ask ⟨o1, o2, []⟩) G (sg.drop a) = .error (p, m))
theorem Rd.lt {h : AH} {ir il z a d : Nat} {sg : Tk} (R : Rd h ir il sg z a d) : ir < h.length ∧ il < h.length := ⟨lt_of R.o, lt_of R.l⟩
theorem Rd.oth {h : AH} {ir il z a d f : Nat} {sg : Tk} {o : O} (R : Rd h ir il sg z a d) (h1 : f ≠ ir) (h2 : f ≠ il) : Rd (put h f o) ir il sg z a d := ⟨by rw [put_ne h1]; exact R.o, by rw [put_ne h2]; exact R.l⟩
section
local macro_rules | `(tactic| walk_at "n") => `(tactic| first | assumption | (apply Ne.symm; assumption) | omega | (exact kin_ne (by assumption) (by assumption) (by simp)))
local macro_rules | `(tactic| walk_at "o") => `(tactic| first
  | with_reducible assumption
  | with_reducible exact get_new
  | ((with_reducible apply put_get); walk_at "o")
  | ((with_reducible apply put_ne2); walk_at "n"; walk_at "o")
  | ((with_reducible apply app_get); walk_at "o"))
local macro_rules | `(tactic| walk_at "h") => `(tactic| first
  | with_reducible assumption
  | ((with_reducible apply lst_of); walk_at "o")
  | ((with_reducible apply lst_app); walk_at "h")
  | ((with_reducible apply lst_put2); walk_at "n"; walk_at "h")
  | walk_at "o")
local macro_rules | `(tactic| walk_at "z") => `(tactic| first | assumption | (simp only [List.length_append, List.length_cons, List.length_nil, List.length_map, SZ]; omega) | (simp [SZ] <;> omega))
local macro_rules | `(tactic| walk_at "T") => `(tactic| first | assumption | exact decide_eq_true rfl | exact decide_eq_true (by first | assumption | omega) | exact nd_T (by first | assumption | omega) | decide)
local macro_rules | `(tactic| walk_at "F") => `(tactic| first | assumption | exact nd_F rfl | exact decide_eq_false (by first | assumption | omega) | exact nd_F (by first | assumption | omega) | decide)
local macro_rules | `(tactic| walk_at "r") => `(tactic| first
  | ((with_reducible refine (show gdW _ _ from ?_)); first | refine sc_mk (by walk_at "z") ?_ | refine gd_mk (by walk_at "T") ?_)
  | ((with_reducible refine (show brW _ _ _ from ?_)); first | refine br_T (by walk_at "T") ?_ | refine br_F (by walk_at "F") ?_)
  | ((with_reducible refine (show LkF _ _ _ _ from ?_)); refine LkF.mk (by walk_at "h") (by exact rfl) ?_)
  | ((with_reducible refine (show LkC _ _ _ from ?_)); refine LkC.mk (by walk_at "h") ?_)
  | ((with_reducible refine (show LkL _ _ _ from ?_)); refine LkL.mk (by walk_at "h") ?_)
  | ((with_reducible refine (show LkM _ _ _ from ?_)); refine LkM.mk (by walk_at "h") ?_)
  | ((with_reducible refine (show LkO _ _ from ?_)); refine LkO.mk (tru_L (by walk_at "h")) ?_)
  | ((with_reducible refine (show optW _ _ from ?_)); refine opt_mk (by assumption) ?_)
  | ((with_reducible refine (show Gd _ _ from ?_)); first | refine Gd.mk (bmty_app (by walk_at "h")) ?_ | refine Gd.mk (lstQ_r (by walk_at "h")) ?_ | refine Gd.mk (small_i (by omega) (by omega)) ?_ | refine Gd.mk (small_2 (by omega) (by omega) (by omega) (by omega)) ?_ | refine Gd.mk (by first | assumption | omega | decide) ?_)
  | ((with_reducible refine (show Wp (fauK _ _ _ _ _ _ _) _ _ from ?_)); refine w_fauC (by walk_at "h") rfl (of_decide_eq_true rfl) ?_)
  | ((with_reducible refine (show Wp (fldK _ _ _ _ _ _) _ _ from ?_)); refine w_fldK (by walk_at "h") (of_decide_eq_true rfl) rfl ?_)
  | ((with_reducible refine (show Wp (ixop _ _ _) _ _ from ?_)); refine w_ixL (by walk_at "h") ?_)
  | ((with_reducible refine (show Wp (b1op _ _ _) _ _ from ?_)); refine w_lenL (by walk_at "h") ?_)
  | ((with_reducible refine (show Wp (bmop _ _ _ _) _ _ from ?_)); refine w_app (by walk_at "h") (by walk_at "z") ?_)
  | ((with_reducible refine (show Wp (revop _ _) _ _ from ?_)); refine w_revL (by walk_at "h") ?_)
  | ((with_reducible refine (show Wp (slcop _ _ _ _) _ _ from ?_)); refine w_slcL (by walk_at "h") ?_)
  | ((with_reducible refine (show Wp (setop _ _ _ _) _ _ from ?_)); refine w_setL (by walk_at "h") ?_)
  | with_reducible refine exW_ok _ _ _ ?_
  | with_reducible refine (evW_ok _ _).v ?_
  | with_reducible refine (evW_ok _ _).c ?_)
local macro_rules | `(tactic| walk_at "s") => `(tactic| (walk_at "r"; conv => whnf))
local macro_rules | `(tactic| walk_at "g") => `(tactic| ((conv => whnf); repeat walk_at "s"))
variable {h : AH} {ir il z a d n : Nat} {sg : Tk} {t : Nat × Nat} {m s : List Nat} {Q : D → AH → Prop} {X : Nat → Fs → AH → Prop} {c p : Nat}
theorem wt_ahead1 (R : Rd h ir il sg z a d) (e : sg[a]? = some (c, p)) (hn : 2 ≤ n) (q : Q (.str [c]) h) : Wp (call prog n 5 [.ref ir] h) Q X := w_eqo (t_ahead1 R e hn) q
theorem wr_at {QF : Fl → AH → Prop} {k : Nat} {s : Sl} {p : Pos} (R : Rd h ir il sg z a d) (q : Rd (put h ir (.ins 5 (rdf il z (a + 1) d))) ir il sg z (a + 1) d → QF (.nx s) (put h ir (.ins 5 (rdf il z (a + 1) d)))) : Wp (fauK (Fk k) 5 false (.cst (.int 1) p) s (.ref ir) h) QF X :=
  w_fauK (z := .int ((a + 1 : Nat) : Int)) (y := .int 1) (v := .int a) R.o rfl rfl rfl (of_decide_eq_true rfl) (q (R.step _ _))
local macro_rules | `(tactic| walk_at "r") => `(tactic| first
  | ((with_reducible refine (show Wp (Cf.cf _ _ _ _) _ _ from ?_)); first
    | refine wt_ahead1 (by assumption) (by assumption) (by omega) ?_
    | refine wt_ahead (by assumption) (by omega) ?_)
  | ((with_reducible refine (show Wp (fauK _ _ _ _ _ _ _) _ _ from ?_)); refine wr_at (by assumption) ?_; intro _)
  | ((with_reducible refine (show LkF _ _ _ _ from ?_)); refine LkF.mk (Rd.o (by assumption)) (by exact rfl) ?_)
  | ((with_reducible refine (show LkC _ _ _ from ?_)); refine LkC.mk (Rd.o (by assumption)) ?_))
theorem t_single (hG : SG d) (hU : SU d) : SS d := by
  intro n h ir il z a0 sg R hsg ha hn
  obtain ⟨k, rfl⟩ : ∃ k, n = k + 2 := ⟨n - 2, by omega⟩
  obtain ⟨l1, l2⟩ := R.lt
  refine w_enter (fn := f_QuestionReader_single) (b := b_QuestionReader_single) (s := [some (.ref ir), none, none]) rfl ⟨rfl, by decide⟩ rfl rfl ?_
  walk_at "g"
  refine w_whl (I := fun m s h' => ∃ a fs sgn, m + a = sg.length ∧ s = [some (.ref ir), some (.ref h.length), sgn] ∧ Rd h' ir il sg z a d ∧ h'[h.length]? = some (.lst (fs.map .str)) ∧ Ext ir h h' ∧ (∀ g ∈ fs, OW g) ∧ fs.length + a0 ≤ a ∧ ∀ (G : List Gk) (o1 o2 : Option QT), G.length = d → tRun z (.ask ⟨o1, o2, []⟩) G (sg.drop a0) = tRun z (.ask ⟨o1, o2, fs.reverse⟩) G (sg.drop a)) (sg.length - a0) (by unfold WF; omega) ⟨a0, [], none, by omega, rfl, R.gr (Gr.app _), get_new, Gr.ext ir (Gr.app _), by simp, by simp, fun _ _ _ _ => rfl⟩ ?_
  rintro m s h1 ⟨a, fs, sgn, hm, rfl, R1, hf, E1, hw, hl, hT⟩
  have hfi : h.length ≠ ir := by omega
  have hfl : h.length ≠ il := by omega
  have hfz : (fs.map D.str).length < SZ := by rw [List.length_map]; unfold SZ; omega
  walk_at "g"
  refine w_inT [[126], [69], [65]] rfl ?_
  walk_at "g"
  refine br_dec (fun hc => ?_) (fun hc => ?_)
  · obtain ⟨c, p, e, hc⟩ : ∃ c p, sg[a]? = some (c, p) ∧ (c = 126 ∨ c = 69 ∨ c = 65) := by
      cases e : sg[a]? with
      | none => rw [hd_none e] at hc; simp at hc
      | some t => rw [hd_some e] at hc; exact ⟨t.1, t.2, rfl, by simpa using hc⟩
    have hla := lt_some e
    walk_at "g"
    refine br_dec (fun hx => ?_) (fun hx => ?_)
    · obtain rfl : c = 126 := by simpa using hx
      walk_at "g"
      refine ⟨m - 1, by omega, a + 1, fs ++ [[126]], _, by omega, rfl, Rd.oth (by assumption) hfi hfl, ?_, ?_, ?_, ?_, ?_⟩
      · rw [put_get (o := .lst (fs.map .str)) (by walk_at "h")]; simp
      · exact Ext.new (E1.trans (Ext.put ir _ _)) (Nat.le_refl _) (Ext.put _ _ _) (.inr trivial)
      · intro g hg
        rcases List.mem_append.mp hg with h | h
        · exact hw g h
        · rw [List.mem_singleton.mp h]; exact .inl rfl
      · simp; omega
      · intro G o1 o2 hG
        rw [hT G o1 o2 hG, drop_some e, List.reverse_append]
        exact run_ok s_not
    · have hEA : c = 69 ∨ c = 65 := by
        rcases hc with rfl | h
        · exact absurd rfl hx
        · exact h
      have hT1 : ∀ (G : List Gk) (o1 o2 : Option QT), G.length = d → tRun z (.ask ⟨o1, o2, []⟩) G (sg.drop a0) = tRun z (.step c ⟨o1, o2, fs.reverse⟩) G (sg.drop (a + 1)) := fun G o1 o2 hG => by
        rw [hT G o1 o2 hG, drop_some e]
        exact run_ok (s_EA hEA)
      walk_at "g"
      refine br_dec (fun hx => ?_) (fun hx => ?_)
      · obtain ⟨p1, e1⟩ : ∃ p1, sg[a + 1]? = some (40, p1) := by
          cases e1 : sg[a + 1]? with
          | none => rw [hd_none e1] at hx; cases hx
          | some t => rw [hd_some e1] at hx; cases t; simp at hx; subst hx; exact ⟨_, rfl⟩
        walk_at "g"
        refine w_mono (hU (k + 1) _ ir il z (a + 1) c sg p1 (by assumption) hsg (by omega) hEA e1).wp ?_ (flw_mono (E1.trans (Ext.put ir _ _)) fun p m k G o1 o2 hG => (hT1 G o1 o2 hG).trans (k G _ hG))
        rintro v h2 ⟨l, q, a2, rfl, E2, R3, hl3, hq, hwq, hs, hP⟩
        have hf2 : h2[h.length]? = some (.lst (fs.map .str)) := E2.get hfi (by walk_at "h")
        walk_at "g"
        obtain ⟨l', h3, e3, G3, hq3⟩ := t_wrapped (n := k + 1) hf2 hq (by omega)
        refine w_eqo e3 ?_
        walk_at "g"
        refine ⟨l', wrap fs.reverse q, a2, rfl, ((E1.trans (Ext.put ir _ _)).trans E2).trans (Gr.ext ir G3), R3.gr G3, hl3, hq3, QW_wrap _ _ (fun g hg => hw g (List.mem_reverse.mp hg)) hwq, ?_, fun G o1 o2 hG => ?_⟩
        · rw [sz_wrap, List.length_reverse]
          omega
        · rw [hT1 G o1 o2 hG, hP G _ hG]
          rfl
      · walk_at "g"
        refine wt_take (by assumption) (by omega) (fun c1 p1 e1 hst R2 => ?_) (fun hn => ?_)
        · have hl1 := lt_some e1
          walk_at "g"
          refine ⟨m - 2, by omega, a + 1 + 1, fs ++ [[c, c1]], _, by omega, rfl, Rd.oth (by assumption) hfi hfl, ?_, ?_, ?_, ?_, ?_⟩
          · rw [put_get (o := .lst (fs.map .str)) (by walk_at "h")]; simp
          · exact Ext.new ((E1.trans (Ext.put ir _ _)).trans (Ext.put ir _ _)) (Nat.le_refl _) (Ext.put _ _ _) (.inr trivial)
          · intro g hg
            rcases List.mem_append.mp hg with h | h
            · exact hw g h
            · rw [List.mem_singleton.mp h]; exact .inr ⟨_, _, rfl, hEA, hst⟩
          · simp; omega
          · intro G o1 o2 hG
            rw [hT1 G o1 o2 hG, drop_some e1, List.reverse_append]
            exact run_ok (s_step hst)
        · refine ⟨rfl, E1.trans (Ext.put ir _ _), _, _, rfl, fun G o1 o2 hG => ?_⟩
          rw [hT1 G o1 o2 hG]
          cases e1 : sg[a + 1]? with
          | none => rw [drop_none e1, hdp, e1]; rfl
          | some t =>
            rw [drop_some e1, hdp_some e1]
            refine run_er (s_stepE ?_ (hn _ _ e1))
            intro h40
            rw [hd_some e1, h40] at hx
            exact hx rfl
  · have hh : ∀ t, sg[a]? = some t → t.1 ≠ 126 ∧ t.1 ≠ 69 ∧ t.1 ≠ 65 := by
      intro t e
      rw [hd_some e] at hc
      simpa using hc
    walk_at "g"
    refine w_mono (hG (k + 1) _ ir il z a sg (by assumption) hsg (by omega) hh).wp ?_ (flw_mono E1 fun p m k G o1 o2 hG => (hT G o1 o2 hG).trans (k G _ hG))
    rintro v h2 ⟨l, q, a2, rfl, E2, R3, hl3, hq, hwq, hs, hP⟩
    have hf2 : h2[h.length]? = some (.lst (fs.map .str)) := E2.get hfi (by walk_at "h")
    walk_at "g"
    obtain ⟨l', h3, e3, G3, hq3⟩ := t_wrapped (n := k + 1) hf2 hq (by omega)
    refine w_eqo e3 ?_
    walk_at "g"
    refine ⟨l', wrap fs.reverse q, a2, rfl, (E1.trans E2).trans (Gr.ext ir G3), R3.gr G3, hl3, hq3, QW_wrap _ _ (fun g hg => hw g (List.mem_reverse.mp hg)) hwq, ?_, fun G o1 o2 hG => ?_⟩
    · rw [sz_wrap, List.length_reverse]
      omega
    · rw [hT G o1 o2 hG, hP G _ hG]
      rfl
end
end P35

namespace Q35
theorem run_beh2 {z : Nat} {o : Option QT} {q : QT} {G : List Gk} {ts : Tk} (hn : ∀ c p r, ts = (c, p) :: r → c ≠ 38) : tRun z (.behind o q) G ts = tRun z (.behind none (orq o q)) G ts := by
  cases ts with
  | nil => exact run_beh (fun c p r e => by cases e)
  | cons t r =>
    obtain ⟨c, p⟩ := t
    by_cases h : c = 124
    · subst h
      rw [run_ok s_or, run_ok s_or]
      rfl
    · exact run_beh (fun c' p' r' e => by cases e; exact ⟨hn _ _ _ rfl, h⟩)
end Q35
namespace P35
open PySem Mx Q35
def SB (d : Nat) : Prop := ∀ (n : Nat) (h : AH) (ir il z a : Nat) (sg : Tk), Rd h ir il sg z a d → sg.length ≤ 200 → a ≤ sg.length → 4 * (20 - d) + 11 ≤ n → Wp (call prog n 17 [.ref ir] h) (got h ir il z a d sg (fun q a' => (∀ c p r, sg.drop a' = (c, p) :: r → c ≠ 38) ∧ ∀ (G : List Gk) (o : Option QT), G.length = d → tRun z (.ask ⟨o, none, []⟩) G (sg.drop a) = tRun z (.behind o q) G (sg.drop a'))) (flw h ir fun p m => ∀ (G : List Gk) (o : Option QT), G.length = d → tRun z (.ask ⟨o, none, []⟩) G (sg.drop a) = .error (p, m))
theorem drop_head {sg : Tk} {a c : Nat} (h : hd1 sg a ≠ [c]) : ∀ c' p r, sg.drop a = (c', p) :: r → c' ≠ c := by
  intro c' p r e e2
  subst e2
  have : sg[a]? = some (c', p) := by
    have := congrArg (·[0]?) e
    simpa using this
  rw [hd_some this] at h
  exact h rfl
theorem hd_is {sg : Tk} {a c : Nat} (h : hd1 sg a = [c]) : ∃ p, sg[a]? = some (c, p) := by
  cases e : sg[a]? with
  | none => rw [hd_none e] at h; cases h
  | some t => rw [hd_some e] at h; cases t; simp at h; subst h; exact ⟨_, rfl⟩
section
local macro_rules | `(tactic| walk_at "n") => `(tactic| first | assumption | (apply Ne.symm; assumption) | omega | (exact kin_ne (by assumption) (by assumption) (by simp)))
local macro_rules | `(tactic| walk_at "o") => `(tactic| first
  | with_reducible assumption
  | with_reducible exact get_new
  | ((with_reducible apply put_get); walk_at "o")
  | ((with_reducible apply put_ne2); walk_at "n"; walk_at "o")
  | ((with_reducible apply app_get); walk_at "o"))
local macro_rules | `(tactic| walk_at "h") => `(tactic| first
  | with_reducible assumption
  | ((with_reducible apply lst_of); walk_at "o")
  | ((with_reducible apply lst_app); walk_at "h")
  | ((with_reducible apply lst_put2); walk_at "n"; walk_at "h")
  | walk_at "o")
local macro_rules | `(tactic| walk_at "z") => `(tactic| first | assumption | (simp only [List.length_append, List.length_cons, List.length_nil, List.length_map, SZ]; omega) | (simp [SZ] <;> omega))
local macro_rules | `(tactic| walk_at "T") => `(tactic| first | assumption | exact decide_eq_true rfl | exact decide_eq_true (by first | assumption | omega) | exact nd_T (by first | assumption | omega) | decide)
local macro_rules | `(tactic| walk_at "F") => `(tactic| first | assumption | exact nd_F rfl | exact decide_eq_false (by first | assumption | omega) | exact nd_F (by first | assumption | omega) | decide)
local macro_rules | `(tactic| walk_at "r") => `(tactic| first
  | ((with_reducible refine (show gdW _ _ from ?_)); first | refine sc_mk (by walk_at "z") ?_ | refine gd_mk (by walk_at "T") ?_)
  | ((with_reducible refine (show brW _ _ _ from ?_)); first | refine br_T (by walk_at "T") ?_ | refine br_F (by walk_at "F") ?_)
  | ((with_reducible refine (show LkF _ _ _ _ from ?_)); refine LkF.mk (by walk_at "h") (by exact rfl) ?_)
  | ((with_reducible refine (show LkC _ _ _ from ?_)); refine LkC.mk (by walk_at "h") ?_)
  | ((with_reducible refine (show LkL _ _ _ from ?_)); refine LkL.mk (by walk_at "h") ?_)
  | ((with_reducible refine (show LkM _ _ _ from ?_)); refine LkM.mk (by walk_at "h") ?_)
  | ((with_reducible refine (show LkO _ _ from ?_)); refine LkO.mk (tru_L (by walk_at "h")) ?_)
  | ((with_reducible refine (show optW _ _ from ?_)); refine opt_mk (by assumption) ?_)
  | ((with_reducible refine (show Gd _ _ from ?_)); first | refine Gd.mk (bmty_app (by walk_at "h")) ?_ | refine Gd.mk (lstQ_r (by walk_at "h")) ?_ | refine Gd.mk (small_i (by omega) (by omega)) ?_ | refine Gd.mk (small_2 (by omega) (by omega) (by omega) (by omega)) ?_ | refine Gd.mk (by first | assumption | omega | decide) ?_)
  | ((with_reducible refine (show Wp (fauK _ _ _ _ _ _ _) _ _ from ?_)); refine w_fauC (by walk_at "h") rfl (of_decide_eq_true rfl) ?_)
  | ((with_reducible refine (show Wp (fldK _ _ _ _ _ _) _ _ from ?_)); refine w_fldK (by walk_at "h") (of_decide_eq_true rfl) rfl ?_)
  | ((with_reducible refine (show Wp (ixop _ _ _) _ _ from ?_)); refine w_ixL (by walk_at "h") ?_)
  | ((with_reducible refine (show Wp (b1op _ _ _) _ _ from ?_)); refine w_lenL (by walk_at "h") ?_)
  | ((with_reducible refine (show Wp (bmop _ _ _ _) _ _ from ?_)); refine w_app (by walk_at "h") (by walk_at "z") ?_)
  | ((with_reducible refine (show Wp (revop _ _) _ _ from ?_)); refine w_revL (by walk_at "h") ?_)
  | ((with_reducible refine (show Wp (slcop _ _ _ _) _ _ from ?_)); refine w_slcL (by walk_at "h") ?_)
  | ((with_reducible refine (show Wp (setop _ _ _ _) _ _ from ?_)); refine w_setL (by walk_at "h") ?_)
  | with_reducible refine exW_ok _ _ _ ?_
  | with_reducible refine (evW_ok _ _).v ?_
  | with_reducible refine (evW_ok _ _).c ?_)
local macro_rules | `(tactic| walk_at "s") => `(tactic| (walk_at "r"; conv => whnf))
local macro_rules | `(tactic| walk_at "g") => `(tactic| ((conv => whnf); repeat walk_at "s"))
local macro_rules | `(tactic| walk_at "r") => `(tactic| first
  | ((with_reducible refine (show Wp (Cf.cf _ _ _ _) _ _ from ?_)); first
    | refine wt_ahead1 (by assumption) (by assumption) (by omega) ?_
    | refine wt_ahead (by assumption) (by omega) ?_)
  | ((with_reducible refine (show Wp (fauK _ _ _ _ _ _ _) _ _ from ?_)); refine wr_at (by assumption) ?_; intro _)
  | ((with_reducible refine (show LkF _ _ _ _ from ?_)); refine LkF.mk (Rd.o (by assumption)) (by exact rfl) ?_)
  | ((with_reducible refine (show LkC _ _ _ from ?_)); refine LkC.mk (Rd.o (by assumption)) ?_))
theorem t_both {d : Nat} (hS : SS d) : SB d := by
  intro n h ir il z a0 sg R hsg ha hn
  obtain ⟨k, rfl⟩ : ∃ k, n = k + 2 := ⟨n - 2, by omega⟩
  refine w_enter (fn := f_QuestionReader_both) (b := b_QuestionReader_both) (s := [some (.ref ir), none]) rfl ⟨rfl, by decide⟩ rfl rfl ?_
  walk_at "g"
  refine w_mono (hS (k + 1) _ ir il z a0 sg R hsg ha (by omega)) ?_ (flw_mono (Ext.refl _ _) fun p m k G o hG => k G o none hG)
  rintro v h1 ⟨l, q, a1, rfl, E1, R1, ha1, hq, hw, hs, hT⟩
  walk_at "g"
  refine w_whl (I := fun m s h' => ∃ a l q, m + a = sg.length ∧ s = [some (.ref ir), some (.ref l)] ∧ Rd h' ir il sg z a d ∧ Ext ir h h' ∧ QAt h' q l ∧ QW q ∧ sz q + a0 ≤ a ∧ ∀ (G : List Gk) (o : Option QT), G.length = d → tRun z (.ask ⟨o, none, []⟩) G (sg.drop a0) = tRun z (.behind o q) G (sg.drop a)) (sg.length - a1) (by unfold WF; omega) ⟨a1, l, q, by omega, rfl, R1, E1, hq, hw, hs, fun G o hG => hT G o none hG⟩ ?_
  clear hT hs hw hq ha1 E1 R1
  rintro m s h2 ⟨a, l2, q2, hm, rfl, R2, E2, hq2, hw2, hs2, hT2⟩
  walk_at "g"
  refine br_dec (fun hx => ?_) (fun hx => ?_)
  · obtain ⟨p, e⟩ := hd_is hx
    have hla := lt_some e
    walk_at "g"
    refine w_mono (hS (k + 1) _ ir il z (a + 1) sg (by assumption) hsg (by omega) (by omega)) ?_ (flw_mono (E2.trans (Ext.put ir _ _)) fun p m k G o hG => ?_)
    · rintro v h3 ⟨l3, q3, a3, rfl, E3, R3, ha3, hq3, hw3, hs3, hT3⟩
      walk_at "g"
      refine w_eqo (mk_r (by omega)) ?_
      walk_at "g"
      have G1 : Gr h3 (h3 ++ [.lst [.ref l2, .ref l3]]) := Gr.app _
      have G2 : Gr (h3 ++ [O.lst [.ref l2, .ref l3]]) (h3 ++ [.lst [.ref l2, .ref l3]] ++ [nd [38] [] h3.length]) := Gr.app _
      have GG := G1.trans G2
      have hq2' : QAt h3 q2 l2 := hq2.ext ((Ext.put ir h2 _).trans E3) R2.o
      refine ⟨sg.length - a3, by omega, a3, _, .op2 [38] q2 q3, by omega, rfl, R3.gr GG, ((E2.trans (Ext.put ir _ _)).trans E3).trans (Gr.ext ir GG), ⟨h3.length, l2, l3, get_new, G2.get get_new, hq2'.gr GG, hq3.gr GG⟩, ⟨.inl rfl, hw2, hw3⟩, by simp only [sz]; omega, fun G o hG => ?_⟩
      rw [hT2 G o hG, drop_some e, run_ok s_and, hT3 G o (some q2) hG]
      rfl
    · rw [hT2 G o hG, drop_some e, run_ok s_and]
      exact k G o (some q2) hG
  · walk_at "g"
    exact ⟨l2, q2, a, rfl, E2, R2, by omega, hq2, hw2, hs2, drop_head hx, hT2⟩
theorem t_either {d : Nat} (hS : SB d) : SE d := by
  intro n h ir il z a0 sg R hsg ha hn
  refine PR.of ?_
  obtain ⟨k, rfl⟩ : ∃ k, n = k + 2 := ⟨n - 2, by omega⟩
  refine w_enter (fn := f_QuestionReader_either) (b := b_QuestionReader_either) (s := [some (.ref ir), none]) rfl ⟨rfl, by decide⟩ rfl rfl ?_
  walk_at "g"
  refine w_mono (hS (k + 1) _ ir il z a0 sg R hsg ha (by omega)) ?_ (flw_mono (Ext.refl _ _) fun p m k G hG => k G none hG)
  rintro v h1 ⟨l, q, a1, rfl, E1, R1, ha1, hq, hw, hs, hj, hT⟩
  walk_at "g"
  refine w_whl (I := fun m s h' => ∃ a l q, m + a = sg.length ∧ s = [some (.ref ir), some (.ref l)] ∧ Rd h' ir il sg z a d ∧ Ext ir h h' ∧ QAt h' q l ∧ QW q ∧ sz q + a0 ≤ a ∧ (∀ c p r, sg.drop a = (c, p) :: r → c ≠ 38) ∧ ∀ (G : List Gk), G.length = d → tRun z (.ask F0) G (sg.drop a0) = tRun z (.behind none q) G (sg.drop a)) (sg.length - a1) (by unfold WF; omega) ⟨a1, l, q, by omega, rfl, R1, E1, hq, hw, hs, hj, fun G hG => hT G none hG⟩ ?_
  clear hT hs hw hq ha1 E1 R1 hj
  rintro m s h2 ⟨a, l2, q2, hm, rfl, R2, E2, hq2, hw2, hs2, hj2, hT2⟩
  walk_at "g"
  refine br_dec (fun hx => ?_) (fun hx => ?_)
  · obtain ⟨p, e⟩ := hd_is hx
    have hla := lt_some e
    walk_at "g"
    refine w_mono (hS (k + 1) _ ir il z (a + 1) sg (by assumption) hsg (by omega) (by omega)) ?_ (flw_mono (E2.trans (Ext.put ir _ _)) fun p m k G hG => ?_)
    · rintro v h3 ⟨l3, q3, a3, rfl, E3, R3, ha3, hq3, hw3, hs3, hj3, hT3⟩
      walk_at "g"
      refine w_eqo (mk_r (by omega)) ?_
      walk_at "g"
      have G1 : Gr h3 (h3 ++ [.lst [.ref l2, .ref l3]]) := Gr.app _
      have G2 : Gr (h3 ++ [O.lst [.ref l2, .ref l3]]) (h3 ++ [.lst [.ref l2, .ref l3]] ++ [nd [124] [] h3.length]) := Gr.app _
      have GG := G1.trans G2
      have hq2' : QAt h3 q2 l2 := hq2.ext ((Ext.put ir h2 _).trans E3) R2.o
      refine ⟨sg.length - a3, by omega, a3, _, .op2 [124] q2 q3, by omega, rfl, R3.gr GG, ((E2.trans (Ext.put ir _ _)).trans E3).trans (Gr.ext ir GG), ⟨h3.length, l2, l3, get_new, G2.get get_new, hq2'.gr GG, hq3.gr GG⟩, ⟨.inr (.inl rfl), hw2, hw3⟩, by simp only [sz]; omega, hj3, fun G hG => ?_⟩
      rw [hT2 G hG, drop_some e, run_ok s_or]
      exact (hT3 G _ hG).trans (run_beh2 hj3)
    · rw [hT2 G hG, drop_some e, run_ok s_or]
      exact k G _ hG
  · walk_at "g"
    exact ⟨l2, q2, a, rfl, E2, R2, by omega, hq2, hw2, hs2, (fun c p r e => ⟨hj2 c p r e, drop_head hx c p r e⟩), hT2⟩
theorem t_E (d : Nat) (hd : d ≤ 20) : SE d := by
  have key : ∀ m d, d + m = 20 → SE d := by
    intro m
    induction m with
    | zero => exact fun d e => t_either (t_both (t_single (t_ground (fun h => absurd h (by omega)) (by omega)) (t_until (fun h => absurd h (by omega)) (by omega))))
    | succ m ih => exact fun d e => t_either (t_both (t_single (t_ground (fun h => ih _ (by omega)) (by omega)) (t_until (fun h => ih _ (by omega)) (by omega))))
  exact key (20 - d) d (by omega)
end
end P35

namespace Q35
/-- signs that are not blanks, with their places -/
def tok : Nat → List Nat → Tk
  | _, [] => []
  | i, c :: r => if c = 32 then tok (i + 1) r else (c, i) :: tok (i + 1) r
theorem tok_len : ∀ (i : Nat) (x : List Nat), (tok i x).length ≤ x.length
  | _, [] => Nat.le_refl _
  | i, c :: r => by
    have := tok_len (i + 1) r
    unfold tok
    split <;> simp <;> omega
def sgs : List Nat := [97, 98, 99, 100, 101, 102, 103, 104, 105, 106, 48, 49, 50, 51, 88, 89, 90, 64, 61, 126, 38, 124, 40, 41, 69, 65, 78, 70, 71, 85]
def mSign : List Nat := [116, 104, 105, 115, 32, 115, 105, 103, 110, 32, 99, 97, 110, 110, 111, 116, 32, 115, 116, 97, 110, 100, 32, 104, 101, 114, 101]
/-- the first sign that cannot stand -/
def badT : Tk → Option Flw
  | [] => none
  | t :: r => if t.1 ∈ sgs then badT r else some (t.2, mSign)
/-- what a text comes to -/
def qRes (x : List Nat) : Except Flw QT := match badT (tok 0 x) with
  | some f => .error f
  | none => tRun x.length (.ask F0) [] (tok 0 x)
theorem badT_none : ∀ {ts : Tk}, (∀ (i : Nat) (t : Nat × Nat), ts[i]? = some t → t.1 ∈ sgs) → badT ts = none
  | [], _ => rfl
  | t :: r, H => by
    unfold badT
    rw [if_pos (H 0 t rfl)]
    exact badT_none fun i t h => H (i + 1) t h
theorem badT_at : ∀ {ts : Tk} {j : Nat} {t : Nat × Nat}, (∀ (i : Nat) (t : Nat × Nat), i < j → ts[i]? = some t → t.1 ∈ sgs) → ts[j]? = some t → t.1 ∉ sgs → badT ts = some (t.2, mSign)
  | [], j, t, _, h, _ => by simp at h
  | u :: r, 0, t, H, h, hn => by
    simp at h
    subst h
    unfold badT
    rw [if_neg hn]
  | u :: r, j + 1, t, H, h, hn => by
    unfold badT
    rw [if_pos (H 0 u (by omega) rfl)]
    exact badT_at (fun i t hi he => H (i + 1) t (by omega) he) h hn
/-- the plain text -/
def wq : QT → Int → List Nat
  | .fact s, _ => s
  | .op1 f q, _ => f ++ wq q 2
  | .op2 f a b, l => if f = [38] ∨ f = [124] then
      (if (if f = [124] then 0 else 1 : Int) < l then [40] ++ (wq a (if f = [124] then 0 else 1) ++ f ++ wq b ((if f = [124] then 0 else 1) + 1)) ++ [41] else wq a (if f = [124] then 0 else 1) ++ f ++ wq b ((if f = [124] then 0 else 1) + 1))
    else f.take 1 ++ [40] ++ wq a 0 ++ [85] ++ wq b 0 ++ [41]
end Q35
namespace P35
open PySem Mx Q35
def tkF : D → Option D
  | .tup [.int i, .str [c]] => if c = 32 then none else some (.tup [.str [c], .int i])
  | _ => none
theorem enum_mem : ∀ {i : Nat} {x : List Nat} {d : D}, d ∈ enumF i (chars x) → ∃ (j c : Nat), d = .tup [.int j, .str [c]]
  | i, [], d, h => by cases h
  | i, c :: r, d, h => by
    rcases List.mem_cons.mp h with h | h
    · exact ⟨i, c, h⟩
    · exact enum_mem (i := i + 1) (x := r) h
theorem enum_tok : ∀ (i : Nat) (x : List Nat), (enumF i (chars x)).filterMap tkF = tk (tok i x)
  | i, [] => rfl
  | i, c :: r => by
    have ih := enum_tok (i + 1) r
    show List.filterMap tkF (.tup [.int i, .str [c]] :: enumF (i + 1) (chars r)) = _
    rw [List.filterMap_cons]
    unfold tok
    by_cases h : c = 32
    · have e : tkF (.tup [.int i, .str [c]]) = none := if_pos h
      rw [e, if_pos h]
      exact ih
    · have e : tkF (.tup [.int i, .str [c]]) = some (.tup [.str [c], .int i]) := if_neg h
      rw [e, if_neg h]
      show _ :: List.filterMap tkF (enumF (i + 1) (chars r)) = _
      rw [ih]
      rfl
theorem enum_len : ∀ (i : Nat) (xs : List D), (enumF i xs).length = xs.length
  | _, [] => rfl
  | i, x :: r => congrArg (· + 1) (enum_len (i + 1) r)
theorem chars_len (x : List Nat) : (chars x).length = x.length := List.length_map _
section
local macro_rules | `(tactic| walk_at "n") => `(tactic| first | assumption | (apply Ne.symm; assumption) | omega | (exact kin_ne (by assumption) (by assumption) (by simp)))
local macro_rules | `(tactic| walk_at "o") => `(tactic| first
  | with_reducible assumption
  | with_reducible exact get_new
  | ((with_reducible apply put_get); walk_at "o")
  | ((with_reducible apply put_ne2); walk_at "n"; walk_at "o")
  | ((with_reducible apply app_get); walk_at "o"))
local macro_rules | `(tactic| walk_at "h") => `(tactic| first
  | with_reducible assumption
  | ((with_reducible apply lst_of); walk_at "o")
  | ((with_reducible apply lst_app); walk_at "h")
  | ((with_reducible apply lst_put2); walk_at "n"; walk_at "h")
  | walk_at "o")
local macro_rules | `(tactic| walk_at "z") => `(tactic| first | assumption | (simp only [List.length_append, List.length_cons, List.length_nil, List.length_map, SZ]; omega) | (simp [SZ] <;> omega))
local macro_rules | `(tactic| walk_at "T") => `(tactic| first | assumption | exact decide_eq_true rfl | exact decide_eq_true (by first | assumption | omega) | exact nd_T (by first | assumption | omega) | decide)
local macro_rules | `(tactic| walk_at "F") => `(tactic| first | assumption | exact nd_F rfl | exact decide_eq_false (by first | assumption | omega) | exact nd_F (by first | assumption | omega) | decide)
local macro_rules | `(tactic| walk_at "r") => `(tactic| first
  | ((with_reducible refine (show gdW _ _ from ?_)); first | refine sc_mk (by walk_at "z") ?_ | refine gd_mk (by walk_at "T") ?_)
  | ((with_reducible refine (show brW _ _ _ from ?_)); first | refine br_T (by walk_at "T") ?_ | refine br_F (by walk_at "F") ?_)
  | ((with_reducible refine (show LkF _ _ _ _ from ?_)); refine LkF.mk (by walk_at "h") (by exact rfl) ?_)
  | ((with_reducible refine (show LkC _ _ _ from ?_)); refine LkC.mk (by walk_at "h") ?_)
  | ((with_reducible refine (show LkL _ _ _ from ?_)); refine LkL.mk (by walk_at "h") ?_)
  | ((with_reducible refine (show LkM _ _ _ from ?_)); refine LkM.mk (by walk_at "h") ?_)
  | ((with_reducible refine (show LkO _ _ from ?_)); refine LkO.mk (tru_L (by walk_at "h")) ?_)
  | ((with_reducible refine (show optW _ _ from ?_)); refine opt_mk (by assumption) ?_)
  | ((with_reducible refine (show Gd _ _ from ?_)); first | refine Gd.mk (bmty_app (by walk_at "h")) ?_ | refine Gd.mk (lstQ_r (by walk_at "h")) ?_ | refine Gd.mk (small_i (by omega) (by omega)) ?_ | refine Gd.mk (small_2 (by omega) (by omega) (by omega) (by omega)) ?_ | refine Gd.mk (by first | assumption | omega | decide) ?_)
  | ((with_reducible refine (show Wp (fauK _ _ _ _ _ _ _) _ _ from ?_)); refine w_fauC (by walk_at "h") rfl (of_decide_eq_true rfl) ?_)
  | ((with_reducible refine (show Wp (fldK _ _ _ _ _ _) _ _ from ?_)); refine w_fldK (by walk_at "h") (of_decide_eq_true rfl) rfl ?_)
  | ((with_reducible refine (show Wp (ixop _ _ _) _ _ from ?_)); refine w_ixL (by walk_at "h") ?_)
  | ((with_reducible refine (show Wp (b1op _ _ _) _ _ from ?_)); refine w_lenL (by walk_at "h") ?_)
  | ((with_reducible refine (show Wp (bmop _ _ _ _) _ _ from ?_)); refine w_app (by walk_at "h") (by walk_at "z") ?_)
  | ((with_reducible refine (show Wp (revop _ _) _ _ from ?_)); refine w_revL (by walk_at "h") ?_)
  | ((with_reducible refine (show Wp (slcop _ _ _ _) _ _ from ?_)); refine w_slcL (by walk_at "h") ?_)
  | ((with_reducible refine (show Wp (setop _ _ _ _) _ _ from ?_)); refine w_setL (by walk_at "h") ?_)
  | with_reducible refine exW_ok _ _ _ ?_
  | with_reducible refine (evW_ok _ _).v ?_
  | with_reducible refine (evW_ok _ _).c ?_)
local macro_rules | `(tactic| walk_at "s") => `(tactic| (walk_at "r"; conv => whnf))
local macro_rules | `(tactic| walk_at "g") => `(tactic| ((conv => whnf); repeat walk_at "s"))
local macro_rules | `(tactic| walk_at "r") => `(tactic| first
  | ((with_reducible refine (show Wp (Cf.cf _ _ _ _) _ _ from ?_)); first
    | refine wt_ahead1 (by assumption) (by assumption) (by omega) ?_
    | refine wt_ahead (by assumption) (by omega) ?_)
  | ((with_reducible refine (show Wp (fauK _ _ _ _ _ _ _) _ _ from ?_)); refine wr_at (by assumption) ?_; intro _)
  | ((with_reducible refine (show LkF _ _ _ _ from ?_)); refine LkF.mk (Rd.o (by assumption)) (by exact rfl) ?_)
  | ((with_reducible refine (show LkC _ _ _ from ?_)); refine LkC.mk (Rd.o (by assumption)) ?_))
variable {h : AH} {ir n : Nat} {x : List Nat}
theorem t_init (ho : h[ir]? = some (.ins 5 [])) (hn : 2 ≤ n) (hx : x.length ≤ 200) : Wp (call prog n 15 [.ref ir, .str x] h) (fun v h' => v = .non ∧ Ext ir h h' ∧ badT (tok 0 x) = none ∧ Rd h' ir h.length (tok 0 x) x.length 0 0) (flw h ir fun p m => badT (tok 0 x) = some (p, m)) := by
  obtain ⟨k, rfl⟩ : ∃ k, n = k + 2 := ⟨n - 2, by omega⟩
  have hir := lt_of ho
  have hz : x.length ≤ SZ := by unfold SZ; omega
  have e1 : (enumF 0 (chars x)).length ≤ SZ := by rw [enum_len, chars_len]; exact hz
  have e2 := tok_len 0 x
  refine w_enter (fn := f_QuestionReader_init) (b := b_QuestionReader_init) (s := [some (.ref ir), some (.str x), none, none, none]) rfl ⟨rfl, by decide⟩ rfl rfl ?_
  walk_at "g"
  refine w_map tkF grd_n (fun y hy => ?_) ?_
  · obtain ⟨j, c, rfl⟩ := enum_mem hy
    refine ⟨_, rfl, ?_⟩
    walk_at "g"
    refine ⟨rfl, br_ndec (fun hc => ?_) fun hc => ?_⟩
    · walk_at "g"
      exact ⟨rfl, if_neg (by simpa using hc)⟩
    · exact if_pos (by simpa using hc)
  rw [enum_tok]
  refine sc_mk (by rw [tk_len]; unfold SZ; omega) ?_
  walk_at "g"
  generalize hH : put _ ir _ = H
  have R1 : Rd H ir h.length (tok 0 x) x.length 0 0 := by
    rw [← hH]
    exact ⟨put_get (by walk_at "h"), by walk_at "h"⟩
  have E1 : Ext ir h H := by
    rw [← hH]
    exact (((((Gr.app _).ext ir).trans (Ext.put _ _ _)).trans (Ext.put _ _ _)).trans (Ext.put _ _ _)).trans (Ext.put _ _ _)
  clear hH
  refine w_for (I := fun i s h' => h' = H ∧ (∃ a b c, s = [some (.ref ir), some (.str x), a, b, c]) ∧ ∀ (j : Nat) (t : Nat × Nat), j < i → (tok 0 x)[j]? = some t → t.1 ∈ sgs) ⟨rfl, ⟨_, _, _, rfl⟩, by intro j t hj; omega⟩ (fun i s h' _ k => by rw [k.1]; exact grd_s (lst_of R1.l)) (fun i d s h' hd k => ?_) (fun s h' k => ?_)
  · obtain ⟨rfl, ⟨a, b, c, rfl⟩, hk⟩ := k
    have hd : (tk (tok 0 x))[i]? = some d := hd
    obtain ⟨t, ht, rfl⟩ : ∃ t, (tok 0 x)[i]? = some t ∧ d = tkd t := by
      unfold tk at hd
      rw [List.getElem?_map] at hd
      cases e : (tok 0 x)[i]? with
      | none => rw [e] at hd; cases hd
      | some t => rw [e] at hd; cases hd; exact ⟨t, rfl, rfl⟩
    refine ⟨_, rfl, ?_⟩
    walk_at "g"
    refine br_ndec (fun hc => ?_) (fun hc => ?_)
    · walk_at "g"
      exact ⟨rfl, E1, t.2, _, rfl, badT_at hk ht hc⟩
    · walk_at "g"
      refine ⟨rfl, ⟨_, _, _, rfl⟩, fun j t2 hj h2 => ?_⟩
      rcases Nat.lt_or_ge j i with h3 | h3
      · exact hk j t2 h3 h2
      · obtain rfl : j = i := by omega
        rw [ht] at h2
        cases h2
        exact hc
  · obtain ⟨rfl, ⟨a, b, c, rfl⟩, hk⟩ := k
    walk_at "g"
    refine ⟨rfl, E1, badT_none fun j t h2 => hk j t ?_ h2, R1⟩
    have := (List.getElem?_eq_some_iff.mp h2).1
    show j < (tk (tok 0 x)).length
    rw [tk_len]
    exact this
variable {il z : Nat} {sg : Tk}
theorem t_whole (R : Rd h ir il sg z 0 0) (hsg : sg.length ≤ 200) (hn : 100 ≤ n) : Wp (call prog n 8 [.ref ir] h) (fun v h' => ∃ l q, v = .ref l ∧ Ext ir h h' ∧ QAt h' q l ∧ QW q ∧ sz q ≤ 200 ∧ tRun z (.ask F0) [] sg = .ok q) (flw h ir fun p m => tRun z (.ask F0) [] sg = .error (p, m)) := by
  obtain ⟨k, rfl⟩ : ∃ k, n = k + 2 := ⟨n - 2, by omega⟩
  refine w_enter (fn := f_Reader_whole) (b := b_Reader_whole) (s := [some (.ref ir), none]) rfl ⟨rfl, by decide⟩ rfl rfl ?_
  walk_at "g"
  refine w_mono (t_E 0 (by omega) (k + 1) h ir il z 0 sg R hsg (by omega) (by omega)).wp ?_ (flw_mono (Ext.refl _ _) fun p m k => k [] rfl)
  rintro v h1 ⟨l, q, a, rfl, E1, R1, ha, hq, hw, hs, hj, hT⟩
  have hT := hT [] rfl
  have ho1 := R1.o
  have hl1 := lst_of R1.l
  walk_at "g"
  refine br_dec (fun hx => ?_) (fun hx => ?_)
  · rw [tk_len] at hx
    walk_at "g"
    refine wt_fail (by assumption) (by omega) ?_
    refine ⟨rfl, E1, _, _, rfl, ?_⟩
    have hla : a < sg.length := by omega
    have e : sg[a]? = some sg[a] := List.getElem?_eq_getElem hla
    rw [List.drop_zero] at hT
    rw [hT, drop_some e, hdp_some e]
    have := hj _ _ _ (drop_some e)
    exact run_er (s_end this.1 this.2)
  · rw [tk_len] at hx
    walk_at "g"
    refine ⟨l, q, rfl, E1, hq, hw, by omega, ?_⟩
    rw [List.drop_zero] at hT
    rw [hT, List.drop_eq_nil_iff.mpr (by omega)]
    rfl
end
end P35

namespace P35
open PySem Mx Q35
def flD : Except Flw QT → D
  | .ok _ => .non
  | .error f => .tup [.int f.1, .str f.2]
theorem OW_ne {f : List Nat} (h : OW f) : f ≠ FA ∧ f ∉ [[69, 85], [65, 85]] ∧ f ∉ [[38], [124]] ∧ f.length ≤ 2 := by
  rcases h with rfl | ⟨c, s, rfl, hc, hs⟩
  · decide
  · have : s = 78 ∨ s = 70 ∨ s = 71 := by simpa [steps] using hs
    rcases hc with rfl | rfl <;> rcases this with rfl | rfl | rfl <;> decide
theorem wq_len : ∀ (q : QT) (l : Int), QW q → (wq q l).length ≤ 6 * sz q
  | .fact s, l, h => by
    have h : s.length = 3 := h
    show s.length ≤ 6 * 1
    omega
  | .op1 f q, l, ⟨h1, h2⟩ => by
    have := wq_len q 2 h2
    have := (OW_ne h1).2.2.2
    show (f ++ wq q 2).length ≤ 6 * (sz q + 1)
    rw [List.length_append]
    omega
  | .op2 f a b, l, ⟨h1, h2, h3⟩ => by
    have hf : f.length ≤ 2 := by rcases h1 with rfl | rfl | rfl | rfl <;> decide
    have hf2 : f = [38] ∨ f = [124] → f.length = 1 := by rintro (rfl | rfl) <;> rfl
    have a1 := wq_len a (if f = [124] then 0 else 1) h2
    have b1 := wq_len b ((if f = [124] then 0 else 1) + 1) h3
    have a2 := wq_len a 0 h2
    have b2 := wq_len b 0 h3
    show (wq (.op2 f a b) l).length ≤ 6 * (sz a + sz b + 1)
    unfold wq
    generalize (if f = [124] then 0 else 1 : Int) = own at *
    by_cases h : f = [38] ∨ f = [124]
    · have := hf2 h
      rw [if_pos h]
      by_cases h2 : own < l
      · rw [if_pos h2]
        simp only [List.length_append, List.length_cons, List.length_nil]
        omega
      · rw [if_neg h2]
        simp only [List.length_append]
        omega
    · rw [if_neg h]
      simp only [List.length_append, List.length_cons, List.length_nil, List.length_take]
      omega
theorem sz_pos : ∀ (q : QT), 0 < sz q
  | .fact s => Nat.one_pos
  | .op1 f q => Nat.succ_pos _
  | .op2 f a b => Nat.succ_pos _
section
local macro_rules | `(tactic| walk_at "n") => `(tactic| first | assumption | (apply Ne.symm; assumption) | omega | (exact kin_ne (by assumption) (by assumption) (by simp)))
local macro_rules | `(tactic| walk_at "o") => `(tactic| first
  | with_reducible assumption
  | with_reducible exact get_new
  | ((with_reducible apply put_get); walk_at "o")
  | ((with_reducible apply put_ne2); walk_at "n"; walk_at "o")
  | ((with_reducible apply app_get); walk_at "o"))
local macro_rules | `(tactic| walk_at "h") => `(tactic| first
  | with_reducible assumption
  | ((with_reducible apply lst_of); walk_at "o")
  | ((with_reducible apply lst_app); walk_at "h")
  | ((with_reducible apply lst_put2); walk_at "n"; walk_at "h")
  | walk_at "o")
local macro_rules | `(tactic| walk_at "z") => `(tactic| first | assumption | (simp only [List.length_append, List.length_cons, List.length_nil, List.length_map, SZ]; omega) | (simp [SZ] <;> omega))
local macro_rules | `(tactic| walk_at "T") => `(tactic| first | assumption | exact decide_eq_true rfl | exact decide_eq_true (by first | assumption | omega) | exact nd_T (by first | assumption | omega) | decide)
local macro_rules | `(tactic| walk_at "F") => `(tactic| first | assumption | exact nd_F rfl | exact decide_eq_false (by first | assumption | omega) | exact nd_F (by first | assumption | omega) | decide)
local macro_rules | `(tactic| walk_at "r") => `(tactic| first
  | ((with_reducible refine (show gdW _ _ from ?_)); first | refine sc_mk (by walk_at "z") ?_ | refine gd_mk (by walk_at "T") ?_)
  | ((with_reducible refine (show brW _ _ _ from ?_)); first | refine br_T (by walk_at "T") ?_ | refine br_F (by walk_at "F") ?_)
  | ((with_reducible refine (show LkF _ _ _ _ from ?_)); refine LkF.mk (by walk_at "h") (by exact rfl) ?_)
  | ((with_reducible refine (show LkC _ _ _ from ?_)); refine LkC.mk (by walk_at "h") ?_)
  | ((with_reducible refine (show LkL _ _ _ from ?_)); refine LkL.mk (by walk_at "h") ?_)
  | ((with_reducible refine (show LkM _ _ _ from ?_)); refine LkM.mk (by walk_at "h") ?_)
  | ((with_reducible refine (show LkO _ _ from ?_)); refine LkO.mk (tru_L (by walk_at "h")) ?_)
  | ((with_reducible refine (show optW _ _ from ?_)); refine opt_mk (by assumption) ?_)
  | ((with_reducible refine (show Gd _ _ from ?_)); first | refine Gd.mk (bmty_app (by walk_at "h")) ?_ | refine Gd.mk (lstQ_r (by walk_at "h")) ?_ | refine Gd.mk (small_i (by omega) (by omega)) ?_ | refine Gd.mk (small_2 (by omega) (by omega) (by omega) (by omega)) ?_ | refine Gd.mk (by first | assumption | omega | decide) ?_)
  | ((with_reducible refine (show Wp (fauK _ _ _ _ _ _ _) _ _ from ?_)); refine w_fauC (by walk_at "h") rfl (of_decide_eq_true rfl) ?_)
  | ((with_reducible refine (show Wp (fldK _ _ _ _ _ _) _ _ from ?_)); refine w_fldK (by walk_at "h") (of_decide_eq_true rfl) rfl ?_)
  | ((with_reducible refine (show Wp (ixop _ _ _) _ _ from ?_)); refine w_ixL (by walk_at "h") ?_)
  | ((with_reducible refine (show Wp (b1op _ _ _) _ _ from ?_)); refine w_lenL (by walk_at "h") ?_)
  | ((with_reducible refine (show Wp (bmop _ _ _ _) _ _ from ?_)); refine w_app (by walk_at "h") (by walk_at "z") ?_)
  | ((with_reducible refine (show Wp (revop _ _) _ _ from ?_)); refine w_revL (by walk_at "h") ?_)
  | ((with_reducible refine (show Wp (slcop _ _ _ _) _ _ from ?_)); refine w_slcL (by walk_at "h") ?_)
  | ((with_reducible refine (show Wp (setop _ _ _ _) _ _ from ?_)); refine w_setL (by walk_at "h") ?_)
  | with_reducible refine exW_ok _ _ _ ?_
  | with_reducible refine (evW_ok _ _).v ?_
  | with_reducible refine (evW_ok _ _).c ?_)
local macro_rules | `(tactic| walk_at "s") => `(tactic| (walk_at "r"; conv => whnf))
local macro_rules | `(tactic| walk_at "g") => `(tactic| ((conv => whnf); repeat walk_at "s"))
local macro_rules | `(tactic| walk_at "r") => `(tactic| first
  | ((with_reducible refine (show Wp (Cf.cf _ _ _ _) _ _ from ?_)); first
    | refine wt_ahead1 (by assumption) (by assumption) (by omega) ?_
    | refine wt_ahead (by assumption) (by omega) ?_)
  | ((with_reducible refine (show Wp (fauK _ _ _ _ _ _ _) _ _ from ?_)); refine wr_at (by assumption) ?_; intro _)
  | ((with_reducible refine (show LkF _ _ _ _ from ?_)); refine LkF.mk (Rd.o (by assumption)) (by exact rfl) ?_)
  | ((with_reducible refine (show LkC _ _ _ from ?_)); refine LkC.mk (Rd.o (by assumption)) ?_))
variable {h : AH} {ir n : Nat} {x : List Nat} {Q : D → AH → Prop} {X : Nat → Fs → AH → Prop}
theorem t_need (hn : 2 ≤ n) {b : Bool} {z : List Nat} (q : b = true → Q .non h) (e : b = false → X 0 [(21, .str z)] h) : Wp (call prog n 2 [.bl b, .str z] h) Q X := by
  obtain ⟨k, rfl⟩ : ∃ k, n = k + 2 := ⟨n - 2, by omega⟩
  refine w_enter (fn := f_need) (b := b_need) (s := [some (.bl b), some (.str z)]) rfl ⟨rfl, by decide⟩ rfl rfl ?_
  walk_at "g"
  cases b
  · walk_at "g"
    exact e rfl
  · walk_at "g"
    exact q rfl
def tx : List Nat := [116, 101, 120, 116]
theorem t_needT (hn : 4 ≤ n) (hx : x.length ≤ 200) (q : Q .non h) : Wp (call prog n 13 [.str x] h) Q X := by
  obtain ⟨k, rfl⟩ : ∃ k, n = k + 2 := ⟨n - 2, by omega⟩
  have hz : x.length ≤ SZ := by unfold SZ; omega
  refine w_enter (fn := f_need_text) (b := b_need_text) (s := [some (.str x)]) rfl ⟨rfl, by decide⟩ rfl rfl ?_
  walk_at "g"
  refine t_need (by omega) (fun _ => ?_) (fun e => ?_)
  · walk_at "g"
    exact q
  · exact absurd (of_decide_eq_false e) (by omega)
theorem t_needX (hn : 4 ≤ n) (hx : 200 < x.length) (hz : x.length ≤ SZ) (q : X 0 [(21, .str tx)] h) : Wp (call prog n 13 [.str x] h) Q X := by
  obtain ⟨k, rfl⟩ : ∃ k, n = k + 2 := ⟨n - 2, by omega⟩
  refine w_enter (fn := f_need_text) (b := b_need_text) (s := [some (.str x)]) rfl ⟨rfl, by decide⟩ rfl rfl ?_
  walk_at "g"
  refine t_need (by omega) (fun e => ?_) (fun e => q)
  exact absurd (of_decide_eq_true e) (by omega)
theorem t_needN (hn : 4 ≤ n) {v : D} (hv : v = .non ∨ (∃ i, v = .int i) ∨ ∃ xs, v = .tup xs) (q : X 0 [(21, .str tx)] h) : Wp (call prog n 13 [v] h) Q X := by
  obtain ⟨k, rfl⟩ : ∃ k, n = k + 2 := ⟨n - 2, by omega⟩
  refine w_enter (fn := f_need_text) (b := b_need_text) (s := [some (v)]) rfl ⟨rfl, by decide⟩ rfl rfl ?_
  rcases hv with rfl | ⟨i, rfl⟩ | ⟨xs, rfl⟩
  · walk_at "g"
    exact t_need (by omega) (fun e => by cases e) (fun e => q)
  · walk_at "g"
    exact t_need (by omega) (fun e => by cases e) (fun e => q)
  · walk_at "g"
    exact t_need (by omega) (fun e => by cases e) (fun e => q)
/-- a reader that is made -/
theorem t_reader {k : Nat} (hn : 2 ≤ k) (hx : x.length ≤ 200) (q : ∀ h', Gr h h' → badT (tok 0 x) = none → Rd h' h.length (h.length + 1) (tok 0 x) x.length 0 0 → Q (.ref h.length) h') (e : ∀ h' p m, Gr h h' → badT (tok 0 x) = some (p, m) → X 1 [(18, .int (p : Nat)), (19, .str m)] h') : Wp (makK1 (Fk k) 5 [.str x] h) Q X := by
  refine w_mak rfl (w_mono (t_init get_new hn hx) ?_ ?_)
  · rintro v h' ⟨rfl, E, eb, R⟩
    rw [len_app] at R
    exact ⟨rfl, q h' (ext_gr (Gr.app _) E (Nat.le_refl _)) eb R⟩
  · rintro c fs h' ⟨rfl, E, p, m, rfl, hz⟩
    exact e h' p m (ext_gr (Gr.app _) E (Nat.le_refl _)) hz
theorem t_flaw (hn : 104 ≤ n) (hx : x.length ≤ 200) : Wp (call prog n 24 [.str x] h) (fun v h' => v = flD (qRes x) ∧ Gr h h') nX := by
  obtain ⟨k, rfl⟩ : ∃ k, n = k + 2 := ⟨n - 2, by omega⟩
  refine w_enter (fn := f_question_flaw) (b := b_question_flaw) (s := [some (.str x), none]) rfl ⟨rfl, by decide⟩ rfl rfl ?_
  walk_at "g"
  refine t_needT (by omega) hx ?_
  walk_at "g"
  refine t_reader (by omega) hx (fun h1 G1 eb R => ?_) (fun h1 p m G1 eb => ?_)
  · walk_at "g"
    refine w_mono (t_whole R (Nat.le_trans (tok_len 0 x) hx) (by omega)) ?_ ?_
    · rintro v h2 ⟨l, q, rfl, E2, hq, hw, hs, hT⟩
      walk_at "g"
      refine ⟨?_, ext_gr G1 E2 (Nat.le_refl _)⟩
      have : qRes x = .ok q := by unfold qRes; rw [eb]; exact hT
      rw [this]
      rfl
    · rintro c fs h2 ⟨rfl, E2, p, m, rfl, hT⟩
      walk_at "g"
      refine ⟨?_, ext_gr G1 E2 (Nat.le_refl _)⟩
      have : qRes x = .error (p, m) := by unfold qRes; rw [eb]; exact hT
      rw [this]
      rfl
  · walk_at "g"
    refine ⟨?_, G1⟩
    have : qRes x = .error (p, m) := by unfold qRes; rw [eb]
    rw [this]
    rfl
theorem t_written : ∀ (q : QT) (l n : Nat) (lev : Int) (h : AH), QAt h q l → QW q → sz q ≤ 200 → sz q + 2 ≤ n → Wp (call prog n 25 [.ref l, .int lev] h) (fun v h' => v = .str (wq q lev) ∧ h' = h) nX
  | .fact s, l, n, lev, h, ⟨i, e1, e2⟩, hw, hs, hn => by
    obtain ⟨k, rfl⟩ : ∃ k, n = k + 2 := ⟨n - 2, by omega⟩
    unfold nd at e1
    refine w_enter (fn := f_written_question) (b := b_written_question) (s := [some (.ref l), some (.int lev), none, none, none, none]) rfl ⟨rfl, by decide⟩ rfl rfl ?_
    walk_at "g"
    exact ⟨rfl, rfl⟩
  | .op1 f q, l, n, lev, h, ⟨i, l1, e1, e2, hq⟩, ⟨hf, hw⟩, hs, hn => by
    obtain ⟨k, rfl⟩ : ∃ k, n = k + 2 := ⟨n - 2, by omega⟩
    unfold nd at e1
    unfold sz at hs hn
    obtain ⟨f1, f2, f3, f4⟩ := OW_ne hf
    have := wq_len q 2 hw
    refine w_enter (fn := f_written_question) (b := b_written_question) (s := [some (.ref l), some (.int lev), none, none, none, none]) rfl ⟨rfl, by decide⟩ rfl rfl ?_
    walk_at "g"
    refine w_inT [[69, 85], [65, 85]] rfl ?_
    walk_at "g"
    refine w_ninT [[38], [124]] rfl ?_
    walk_at "g"
    refine w_use (t_written q l1 (k + 1) 2 h hq hw (by omega) (by omega)) ?_
    rintro v h' ⟨rfl, rfl⟩
    walk_at "g"
    exact ⟨rfl, rfl⟩
  | .op2 f a b, l, n, lev, h, ⟨i, l1, l2, e1, e2, ha, hb⟩, ⟨hf, wa, wb⟩, hs, hn => by
    obtain ⟨k, rfl⟩ : ∃ k, n = k + 2 := ⟨n - 2, by omega⟩
    unfold nd at e1
    unfold sz at hs hn
    have pa := sz_pos a
    have pb := sz_pos b
    have la0 := wq_len a 0 wa
    have la1 := wq_len a 1 wa
    have lb0 := wq_len b 0 wb
    have lb1 := wq_len b 1 wb
    have lb2 := wq_len b 2 wb
    have IA := fun lev => t_written a l1 (k + 1) lev h ha wa (by omega) (by omega)
    have IB := fun lev => t_written b l2 (k + 1) lev h hb wb (by omega) (by omega)
    refine w_enter (fn := f_written_question) (b := b_written_question) (s := [some (.ref l), some (.int lev), none, none, none, none]) rfl ⟨rfl, by decide⟩ rfl rfl ?_
    rcases hf with rfl | rfl | rfl | rfl
    · walk_at "g"
      refine w_inT [[69, 85], [65, 85]] rfl ?_
      walk_at "g"
      refine w_ninT [[38], [124]] rfl ?_
      walk_at "g"
      refine w_use (IA _) ?_
      rintro v h' ⟨rfl, rfl⟩
      walk_at "g"
      refine w_use (IB _) ?_
      rintro v h' ⟨rfl, rfl⟩
      walk_at "g"
      refine br_dec (fun hx => ?_) (fun hx => ?_)
      · walk_at "g"
        exact ⟨by simp [wq, hx], rfl⟩
      · walk_at "g"
        exact ⟨by simp [wq, hx], rfl⟩
    · walk_at "g"
      refine w_inT [[69, 85], [65, 85]] rfl ?_
      walk_at "g"
      refine w_ninT [[38], [124]] rfl ?_
      walk_at "g"
      refine w_use (IA _) ?_
      rintro v h' ⟨rfl, rfl⟩
      walk_at "g"
      refine w_use (IB _) ?_
      rintro v h' ⟨rfl, rfl⟩
      walk_at "g"
      refine br_dec (fun hx => ?_) (fun hx => ?_)
      · walk_at "g"
        exact ⟨by simp [wq, hx], rfl⟩
      · walk_at "g"
        exact ⟨by simp [wq, hx], rfl⟩
    · walk_at "g"
      refine w_inT [[69, 85], [65, 85]] rfl ?_
      walk_at "g"
      refine w_use (IA _) ?_
      rintro v h' ⟨rfl, rfl⟩
      walk_at "g"
      refine w_use (IB _) ?_
      rintro v h' ⟨rfl, rfl⟩
      walk_at "g"
      exact ⟨by simp [wq], rfl⟩
    · walk_at "g"
      refine w_inT [[69, 85], [65, 85]] rfl ?_
      walk_at "g"
      refine w_use (IA _) ?_
      rintro v h' ⟨rfl, rfl⟩
      walk_at "g"
      refine w_use (IB _) ?_
      rintro v h' ⟨rfl, rfl⟩
      walk_at "g"
      exact ⟨by simp [wq], rfl⟩
def plD : Except Flw QT → D
  | .ok q => .str (wq q 0)
  | .error _ => .non
theorem t_plain (hn : 206 ≤ n) (hx : x.length ≤ 200) : Wp (call prog n 26 [.str x] h) (fun v h' => v = plD (qRes x) ∧ Gr h h') nX := by
  obtain ⟨k, rfl⟩ : ∃ k, n = k + 2 := ⟨n - 2, by omega⟩
  refine w_enter (fn := f_plain_question) (b := b_plain_question) (s := [some (.str x)]) rfl ⟨rfl, by decide⟩ rfl rfl ?_
  walk_at "g"
  refine t_needT (by omega) hx ?_
  walk_at "g"
  refine w_use (t_flaw (by omega) hx) ?_
  rintro v h1 ⟨rfl, G1⟩
  cases e : qRes x with
  | error f =>
    rw [show flD (.error f) = .tup [.int f.1, .str f.2] from rfl]
    walk_at "g"
    exact ⟨rfl, G1⟩
  | ok q =>
    rw [show flD (.ok q) = .non from rfl]
    walk_at "g"
    refine t_reader (k := k) (by omega) hx (fun h2 G2 eb R => ?_) (fun h2 p m G2 eb => ?_)
    · walk_at "g"
      refine w_mono (t_whole R (Nat.le_trans (tok_len 0 x) hx) (by omega)) ?_ ?_
      · rintro v h3 ⟨l, q2, rfl, E3, hq, hw, hs, hT⟩
        have e2 : qRes x = .ok q2 := by unfold qRes; rw [eb]; exact hT
        rw [e] at e2
        cases e2
        walk_at "g"
        refine w_use (t_written q l (k + 1) 0 h3 hq hw hs (by omega)) ?_
        rintro v h4 ⟨rfl, rfl⟩
        walk_at "g"
        exact ⟨rfl, G1.trans (ext_gr G2 E3 (Nat.le_refl _))⟩
      · rintro c fs h3 ⟨rfl, E3, p, m, rfl, hT⟩
        have e2 : qRes x = .error (p, m) := by unfold qRes; rw [eb]; exact hT
        rw [e] at e2
        cases e2
    · have e2 : qRes x = .error (p, m) := by unfold qRes; rw [eb]
      rw [e] at e2
      cases e2
end
end P35

/-! Questions: texts of trees, in plain words. -/
namespace Q35
/-- signs that are not blanks -/
def sg (x : List Nat) : List Nat := x.filter (· ≠ 32)
theorem sg_app (x y : List Nat) : sg (x ++ y) = sg x ++ sg y := List.filter_append ..
theorem tok_sg : ∀ (i : Nat) (x : List Nat), (tok i x).map Prod.fst = sg x
  | _, [] => rfl
  | i, c :: r => by
    have := tok_sg (i + 1) r
    unfold tok sg
    by_cases h : c = 32
    · rw [if_pos h, List.filter_cons_of_neg (by simpa using h)]
      exact this
    · rw [if_neg h, List.filter_cons_of_pos (by simpa using h), List.map_cons, this]
      rfl
/-- signs alone -/
def go : List Nat → Sta → List Gk → Option (Sta × List Gk)
  | [], st, G => some (st, G)
  | c :: r, st, G => match tStep c 0 st G with
    | .ok x => go r x.1 x.2
    | .error _ => none
theorem go_app : ∀ (a b : List Nat) (st : Sta) (G : List Gk) {st' : Sta} {G' : List Gk}, go a st G = some (st', G') → go (a ++ b) st G = go b st' G'
  | [], b, st, G, st', G', h => by cases h; rfl
  | c :: r, b, st, G, st', G', h => by
    show (match tStep c 0 st G with
    | .ok x => go (r ++ b) x.1 x.2
    | .error _ => none) = _
    have h : (match tStep c 0 st G with
    | .ok x => go r x.1 x.2
    | .error _ => none) = some (st', G') := h
    cases e : tStep c 0 st G with
    | error f => rw [e] at h; cases h
    | ok x => rw [e] at h; exact go_app r b _ _ h
theorem go_1 {c : Nat} {r : List Nat} {st st' : Sta} {G G' : List Gk} (h : tStep c 0 st G = .ok (st', G')) : go (c :: r) st G = go r st' G' := by
  show (match tStep c 0 st G with
    | .ok x => go r x.1 x.2
    | .error _ => none) = _
  rw [h]
/-- places do not matter where nothing is wrong -/
theorem tStep_p {c p p' : Nat} {st : Sta} {G : List Gk} {x : Sta × List Gk} (h : tStep c p st G = .ok x) : tStep c p' st G = .ok x ∧ c ∈ sgs := by
  have hn : ∀ x ∈ names, x ∈ sgs := by decide
  have hd : ∀ x ∈ digits, x ∈ sgs := by decide
  have hs : ∀ x ∈ steps, x ∈ sgs := by decide
  have k40 : 40 ∈ sgs := by decide
  have k69 : 69 ∈ sgs := by decide
  have k65 : 65 ∈ sgs := by decide
  have k126 : 126 ∈ sgs := by decide
  have k38 : 38 ∈ sgs := by decide
  have k124 : 124 ∈ sgs := by decide
  have k85 : 85 ∈ sgs := by decide
  have k41 : 41 ∈ sgs := by decide
  have k64 : 64 ∈ sgs := by decide
  have k61 : 61 ∈ sgs := by decide
  cases st with
  | ask F =>
    simp only [tStep] at h ⊢
    by_cases h1 : c = 40
    · rw [if_pos h1] at h ⊢
      by_cases h2 : G.length = 20
      · rw [if_pos h2] at h; cases h
      · rw [if_neg h2] at h ⊢; exact ⟨h, h1 ▸ k40⟩
    · rw [if_neg h1] at h ⊢
      by_cases h2 : c = 69 ∨ c = 65
      · rw [if_pos h2] at h ⊢; exact ⟨h, by rcases h2 with rfl | rfl <;> assumption⟩
      · rw [if_neg h2] at h ⊢
        by_cases h3 : c = 126
        · rw [if_pos h3] at h ⊢; exact ⟨h, h3 ▸ k126⟩
        · rw [if_neg h3] at h ⊢
          by_cases h4 : c ∈ names
          · rw [if_pos h4] at h ⊢; exact ⟨h, hn _ h4⟩
          · rw [if_neg h4] at h; cases h
  | behind o q =>
    simp only [tStep] at h ⊢
    by_cases h1 : c = 38
    · rw [if_pos h1] at h ⊢; exact ⟨h, h1 ▸ k38⟩
    · rw [if_neg h1] at h ⊢
      by_cases h2 : c = 124
      · rw [if_pos h2] at h ⊢; exact ⟨h, h2 ▸ k124⟩
      · rw [if_neg h2] at h ⊢
        cases G with
        | nil => cases h
        | cons g G =>
          cases g with
          | par F =>
            by_cases h3 : c = 41
            · subst h3; exact ⟨h, k41⟩
            · simp only [if_neg h3] at h; cases h
          | u1 s F =>
            by_cases h3 : c = 85
            · subst h3; exact ⟨h, k85⟩
            · simp only [if_neg h3] at h; cases h
          | u2 s a F =>
            by_cases h3 : c = 41
            · subst h3; exact ⟨h, k41⟩
            · simp only [if_neg h3] at h; cases h
  | step s F =>
    simp only [tStep] at h ⊢
    by_cases h1 : c = 40
    · rw [if_pos h1] at h ⊢
      by_cases h2 : G.length = 20
      · rw [if_pos h2] at h; cases h
      · rw [if_neg h2] at h ⊢; exact ⟨h, h1 ▸ k40⟩
    · rw [if_neg h1] at h ⊢
      by_cases h2 : c ∈ steps
      · rw [if_pos h2] at h ⊢; exact ⟨h, hs _ h2⟩
      · rw [if_neg h2] at h; cases h
  | sign n F =>
    simp only [tStep] at h ⊢
    by_cases h1 : c = 64
    · rw [if_pos h1] at h ⊢; exact ⟨h, h1 ▸ k64⟩
    · rw [if_neg h1] at h ⊢
      by_cases h2 : c = 61
      · rw [if_pos h2] at h ⊢; exact ⟨h, h2 ▸ k61⟩
      · rw [if_neg h2] at h; cases h
  | place n F =>
    simp only [tStep] at h ⊢
    by_cases h1 : c ∈ digits
    · rw [if_pos h1] at h ⊢; exact ⟨h, hd _ h1⟩
    · rw [if_neg h1] at h; cases h
  | name n F =>
    simp only [tStep] at h ⊢
    by_cases h1 : c ∈ names
    · rw [if_pos h1] at h ⊢; exact ⟨h, hn _ h1⟩
    · rw [if_neg h1] at h; cases h
theorem go_run {z : Nat} : ∀ (ts : Tk) (st : Sta) (G : List Gk) {st' : Sta} {G' : List Gk}, go (ts.map Prod.fst) st G = some (st', G') → tRun z st G ts = tEnd z st' G' ∧ badT ts = none
  | [], st, G, st', G', h => by cases h; exact ⟨rfl, rfl⟩
  | t :: r, st, G, st', G', h => by
    have h : (match tStep t.1 0 st G with
    | .ok x => go (r.map Prod.fst) x.1 x.2
    | .error _ => none) = some (st', G') := h
    cases e : tStep t.1 0 st G with
    | error f => rw [e] at h; cases h
    | ok x =>
      rw [e] at h
      obtain ⟨e2, hs⟩ := tStep_p (p' := t.2) e
      obtain ⟨h1, h2⟩ := go_run r x.1 x.2 h
      refine ⟨?_, ?_⟩
      · show (match tStep t.1 t.2 st G with
          | .error f => Except.error f
          | .ok x => tRun z x.1 x.2 r) = _
        rw [e2]
        exact h1
      · unfold badT
        rw [if_pos hs]
        exact h2
/-- phrases: signs that come to a tree, in three kinds -/
def A2 (q : QT) (cs : List Nat) (N : Nat) : Prop := ∀ (F : Fr) (G : List Gk), G.length + N ≤ 20 → go cs (.ask F) G = some (fin F q, G)
def A1 (q : QT) (cs : List Nat) (N : Nat) : Prop := ∀ (o : Option QT) (G : List Gk), G.length + N ≤ 20 → go cs (.ask ⟨o, none, []⟩) G = some (.behind o q, G)
def A0 (q : QT) (cs : List Nat) (N : Nat) : Prop := ∀ (G : List Gk), G.length + N ≤ 20 → ∃ o q', go cs (.ask F0) G = some (.behind o q', G) ∧ orq o q' = q
theorem A2.a1 {q : QT} {cs : List Nat} {N : Nat} (h : A2 q cs N) : A1 q cs N := fun o G hG => h ⟨o, none, []⟩ G hG
theorem A1.a0 {q : QT} {cs : List Nat} {N : Nat} (h : A1 q cs N) : A0 q cs N := fun G hG => ⟨none, q, h none G hG, rfl⟩
/-- a phrase of a kind -/
def AL (l : Int) (q : QT) (cs : List Nat) (N : Nat) : Prop := if l ≤ 0 then A0 q cs N else if l = 1 then A1 q cs N else A2 q cs N
theorem A2.al {q : QT} {cs : List Nat} {N : Nat} (h : A2 q cs N) (l : Int) : AL l q cs N := by
  unfold AL
  split
  · exact h.a1.a0
  · split
    · exact h.a1
    · exact h
theorem A1.al {q : QT} {cs : List Nat} {N : Nat} (h : A1 q cs N) {l : Int} (hl : l ≤ 1) : AL l q cs N := by
  unfold AL
  split
  · exact h.a0
  · rw [if_pos (by omega)]
    exact h
theorem A0.al {q : QT} {cs : List Nat} {N : Nat} (h : A0 q cs N) {l : Int} (hl : l ≤ 0) : AL l q cs N := by
  unfold AL
  rw [if_pos hl]
  exact h
theorem A2.up {q : QT} {cs : List Nat} {N M : Nat} (h : A2 q cs N) (hm : N ≤ M) : A2 q cs M := fun F G hG => h F G (by omega)
theorem A1.up {q : QT} {cs : List Nat} {N M : Nat} (h : A1 q cs N) (hm : N ≤ M) : A1 q cs M := fun F G hG => h F G (by omega)
theorem A0.up {q : QT} {cs : List Nat} {N M : Nat} (h : A0 q cs N) (hm : N ≤ M) : A0 q cs M := fun G hG => h G (by omega)
theorem a_par {q : QT} {cs : List Nat} {N : Nat} (h : A0 q cs N) : A2 q ([40] ++ cs ++ [41]) (N + 1) := by
  intro F G hG
  obtain ⟨o, q', e, eq⟩ := h (.par F :: G) (by simp only [List.length_cons]; omega)
  rw [List.append_assoc]
  show go (40 :: (cs ++ [41])) _ _ = _
  rw [go_1 (s_open (by omega)), go_app _ _ _ _ e, ← eq]
  rfl
theorem a_fact1 {n c : Nat} (hn : n ∈ names) (hc : c ∈ digits) : A2 (.fact [n, 64, c]) [n, 64, c] 0 := by
  intro F G hG
  rw [go_1 (s_nm hn), go_1 s_as64, go_1 (s_pl hc)]
  rfl
theorem a_fact2 {n c : Nat} (hn : n ∈ names) (hc : c ∈ names) : A2 (.fact [n, 61, c]) [n, 61, c] 0 := by
  intro F G hG
  rw [go_1 (s_nm hn), go_1 s_as61, go_1 (s_na hc)]
  rfl
theorem a_not {q : QT} {cs : List Nat} {N : Nat} (h : A2 q cs N) : A2 (.op1 [126] q) ([126] ++ cs) N := by
  intro F G hG
  show go (126 :: cs) _ _ = _
  rw [go_1 s_not, h _ G hG]
  rfl
theorem a_step {q : QT} {cs : List Nat} {N s c : Nat} (hs : s = 69 ∨ s = 65) (hc : c ∈ steps) (h : A2 q cs N) : A2 (.op1 [s, c] q) ([s, c] ++ cs) N := by
  intro F G hG
  show go (s :: c :: cs) _ _ = _
  rw [go_1 (s_EA hs), go_1 (s_step hc), h _ G hG]
  rfl
theorem a_until {a b : QT} {ca cb : List Nat} {N s : Nat} (hs : s = 69 ∨ s = 65) (ha : A0 a ca N) (hb : A0 b cb N) : A2 (.op2 [s, 85] a b) ([s, 40] ++ ca ++ [85] ++ cb ++ [41]) (N + 1) := by
  intro F G hG
  obtain ⟨o, a', e1, ea⟩ := ha (.u1 s F :: G) (by simp only [List.length_cons]; omega)
  obtain ⟨o2, b', e2, eb⟩ := hb (.u2 s a F :: G) (by simp only [List.length_cons]; omega)
  have : [s, 40] ++ ca ++ [85] ++ cb ++ [41] = s :: 40 :: (ca ++ (85 :: (cb ++ [41]))) := by simp
  rw [this, go_1 (s_EA hs), go_1 (s_uopen (by omega)), go_app _ _ _ _ e1]
  have e3 : tStep 85 0 (.behind o a') (.u1 s F :: G) = .ok (.ask F0, .u2 s a F :: G) := by rw [← ea]; rfl
  rw [go_1 e3, go_app _ _ _ _ e2, ← eb]
  rfl
theorem a_and {a b : QT} {ca cb : List Nat} {N : Nat} (ha : A1 a ca N) (hb : A2 b cb N) : A1 (.op2 [38] a b) (ca ++ [38] ++ cb) N := by
  intro o G hG
  rw [List.append_assoc, go_app _ _ _ _ (ha o G hG)]
  show go (38 :: cb) _ _ = _
  rw [go_1 s_and, hb _ G hG]
  rfl
theorem a_or {a b : QT} {ca cb : List Nat} {N : Nat} (ha : A0 a ca N) (hb : A1 b cb N) : A0 (.op2 [124] a b) (ca ++ [124] ++ cb) N := by
  intro G hG
  obtain ⟨o, a', e1, ea⟩ := ha G hG
  refine ⟨some a, b, ?_, rfl⟩
  rw [List.append_assoc, go_app _ _ _ _ e1]
  show go (124 :: cb) _ _ = _
  rw [go_1 s_or, ea, hb _ G hG]
theorem whole_ok {q : QT} {x : List Nat} {N : Nat} (hN : N ≤ 20) (h : A0 q (sg x) N) : qRes x = .ok q := by
  obtain ⟨o, q', e, eq⟩ := h [] (by simpa using hN)
  rw [← tok_sg 0 x] at e
  obtain ⟨h1, h2⟩ := go_run (z := x.length) _ _ _ e
  unfold qRes
  rw [h2]
  show tRun _ _ _ _ = _
  rw [h1, ← eq]
  rfl
/-- how deep -/
def dp : QT → Nat
  | .fact _ => 0
  | .op1 _ q => dp q + 1
  | .op2 _ a b => max (dp a) (dp b) + 1
def szz : QT → Nat
  | .fact _ => 1
  | .op1 _ q => szz q + 1
  | .op2 _ a b => szz a + szz b + 1
theorem sz_dp : ∀ (q : QT), szz q + 1 ≤ 2 ^ (dp q + 1)
  | .fact _ => Nat.le_refl 2
  | .op1 _ q => by
    have h1 := sz_dp q
    have h2 := Nat.one_le_two_pow (n := dp q + 1)
    show szz q + 1 + 1 ≤ 2 ^ (dp q + 1 + 1)
    rw [Nat.pow_succ 2 (dp q + 1)]
    omega
  | .op2 _ a b => by
    have h1 := sz_dp a
    have h2 := sz_dp b
    have h3 : 2 ^ (dp a + 1) ≤ 2 ^ (max (dp a) (dp b) + 1) := Nat.pow_le_pow_right (by decide) (by omega)
    have h4 : 2 ^ (dp b + 1) ≤ 2 ^ (max (dp a) (dp b) + 1) := Nat.pow_le_pow_right (by decide) (by omega)
    show szz a + szz b + 1 + 1 ≤ 2 ^ (max (dp a) (dp b) + 1 + 1)
    rw [Nat.pow_succ]
    omega
end Q35

namespace P35
open PySem Mx Q35
/-- the row that draws are taken from -/
structure Row (ns : List Int) (h : AH) (lr : Nat) : Prop where
  ne : lr ≠ 0
  sc : lstAt h 0 = some (ns.map .int)
  rw : ∃ p s g : Int, 0 ≤ p ∧ h[lr]? = some (.lst [.ref 0, .int p, .int s, .int g])
theorem Row.gr {ns : List Int} {h h' : AH} {lr : Nat} (R : Row ns h lr) (G : Gr h h') : Row ns h' lr := by
  obtain ⟨p, s, g, hp, e⟩ := R.rw
  exact ⟨R.ne, G.lst R.sc, p, s, g, hp, G.get e⟩
theorem Row.put {ns : List Int} {h : AH} {lr : Nat} (R : Row ns h lr) {p s g : Int} (hp : 0 ≤ p) : Row ns (Mx.put h lr (.lst [.ref 0, .int p, .int s, .int g])) lr := by
  obtain ⟨_, _, _, _, e⟩ := R.rw
  exact ⟨R.ne, (lst_put R.ne).trans R.sc, p, s, g, hp, put_get e⟩
theorem Row.oth {ns : List Int} {h : AH} {lr l : Nat} {o : O} (R : Row ns h lr) (h1 : l ≠ lr) (h2 : l ≠ 0) : Row ns (Mx.put h l o) lr := by
  obtain ⟨p, s, g, hp, e⟩ := R.rw
  exact ⟨R.ne, (lst_put h2).trans R.sc, p, s, g, hp, (put_ne h1).trans e⟩
theorem Row.lt {ns : List Int} {h : AH} {lr : Nat} (R : Row ns h lr) : lr < h.length := by
  obtain ⟨p, s, g, hp, e⟩ := R.rw
  exact lt_of e
theorem mod_nat {x : Int} {m : Nat} (hm : 0 < m) : ∃ i : Nat, x % (m : Int) = i ∧ i < m := by
  have h1 := Int.emod_nonneg x (b := m) (by omega)
  have h2 := Int.emod_lt_of_pos x (b := m) (by omega)
  exact ⟨(x % m).toNat, by omega, by omega⟩
section
local macro_rules | `(tactic| walk_at "n") => `(tactic| first | assumption | (apply Ne.symm; assumption) | omega | (exact kin_ne (by assumption) (by assumption) (by simp)))
local macro_rules | `(tactic| walk_at "o") => `(tactic| first
  | with_reducible assumption
  | with_reducible exact get_new
  | ((with_reducible apply put_get); walk_at "o")
  | ((with_reducible apply put_ne2); walk_at "n"; walk_at "o")
  | ((with_reducible apply app_get); walk_at "o"))
local macro_rules | `(tactic| walk_at "h") => `(tactic| first
  | with_reducible assumption
  | ((with_reducible apply lst_of); walk_at "o")
  | ((with_reducible apply lst_app); walk_at "h")
  | ((with_reducible apply lst_put2); walk_at "n"; walk_at "h")
  | walk_at "o")
local macro_rules | `(tactic| walk_at "z") => `(tactic| first | assumption | (simp only [List.length_append, List.length_cons, List.length_nil, List.length_map, SZ]; omega) | (simp [SZ] <;> omega))
local macro_rules | `(tactic| walk_at "T") => `(tactic| first | assumption | exact decide_eq_true rfl | exact decide_eq_true (by first | assumption | omega) | exact nd_T (by first | assumption | omega) | decide)
local macro_rules | `(tactic| walk_at "F") => `(tactic| first | assumption | exact nd_F rfl | exact decide_eq_false (by first | assumption | omega) | exact nd_F (by first | assumption | omega) | decide)
local macro_rules | `(tactic| walk_at "r") => `(tactic| first
  | ((with_reducible refine (show gdW _ _ from ?_)); first | refine sc_mk (by walk_at "z") ?_ | refine gd_mk (by walk_at "T") ?_)
  | ((with_reducible refine (show brW _ _ _ from ?_)); first | refine br_T (by walk_at "T") ?_ | refine br_F (by walk_at "F") ?_)
  | ((with_reducible refine (show LkF _ _ _ _ from ?_)); refine LkF.mk (by walk_at "h") (by exact rfl) ?_)
  | ((with_reducible refine (show LkC _ _ _ from ?_)); refine LkC.mk (by walk_at "h") ?_)
  | ((with_reducible refine (show LkL _ _ _ from ?_)); refine LkL.mk (by walk_at "h") ?_)
  | ((with_reducible refine (show LkM _ _ _ from ?_)); refine LkM.mk (by walk_at "h") ?_)
  | ((with_reducible refine (show LkO _ _ from ?_)); refine LkO.mk (tru_L (by walk_at "h")) ?_)
  | ((with_reducible refine (show optW _ _ from ?_)); refine opt_mk (by assumption) ?_)
  | ((with_reducible refine (show Gd _ _ from ?_)); first
    | ((with_reducible refine (show Gd (bmty _ _ _ = true) _ from ?_)); refine Gd.mk (bmty_app (by walk_at "h")) ?_)
    | ((with_reducible refine (show Gd (lstQ _ _ = true) _ from ?_)); refine Gd.mk (lstQ_r (by walk_at "h")) ?_)
    | ((with_reducible refine Gd.mk (small_i ?_ ?_) ?_); omega; omega)
    | ((with_reducible refine Gd.mk (small_2 ?_ ?_ ?_ ?_) ?_); omega; omega; omega; omega)
    | ((with_reducible refine Gd.mk ?_ ?_); (first | assumption | omega | decide)))
  | ((with_reducible refine (show Wp (fauK _ _ _ _ _ _ _) _ _ from ?_)); refine w_fauC (by walk_at "h") rfl (of_decide_eq_true rfl) ?_)
  | ((with_reducible refine (show Wp (fldK _ _ _ _ _ _) _ _ from ?_)); refine w_fldK (by walk_at "h") (of_decide_eq_true rfl) rfl ?_)
  | ((with_reducible refine (show Wp (ixop _ _ _) _ _ from ?_)); refine w_ixL (by walk_at "h") ?_)
  | ((with_reducible refine (show Wp (b1op _ _ _) _ _ from ?_)); refine w_lenL (by walk_at "h") ?_)
  | ((with_reducible refine (show Wp (bmop _ _ _ _) _ _ from ?_)); refine w_app (by walk_at "h") (by walk_at "z") ?_)
  | ((with_reducible refine (show Wp (revop _ _) _ _ from ?_)); refine w_revL (by walk_at "h") ?_)
  | ((with_reducible refine (show Wp (slcop _ _ _ _) _ _ from ?_)); refine w_slcL (by walk_at "h") ?_)
  | ((with_reducible refine (show Wp (setop _ _ _ _) _ _ from ?_)); refine w_setL (by walk_at "h") ?_)
  | with_reducible refine exW_ok _ _ _ ?_
  | with_reducible refine (evW_ok _ _).v ?_
  | with_reducible refine (evW_ok _ _).c ?_)
local macro_rules | `(tactic| walk_at "s") => `(tactic| (walk_at "r"; conv => whnf))
local macro_rules | `(tactic| walk_at "g") => `(tactic| ((conv => whnf); repeat walk_at "s"))
variable {ns : List Int} {h : AH} {lr n : Nat} {Q : D → AH → Prop} {X : Nat → Fs → AH → Prop}
theorem t_taken (R : Row ns h lr) {m : Nat} (hm : 0 < m) (hm2 : m < 1073741824) (hn : 2 ≤ n) : Wp (call prog n 27 [.ref lr, .int m] h) (fun v h' => ∃ i : Nat, v = .int i ∧ i < m ∧ Row ns h' lr ∧ Ext lr h h') nX := by
  obtain ⟨k, rfl⟩ : ∃ k, n = k + 2 := ⟨n - 2, by omega⟩
  obtain ⟨p, s, g, hp, e⟩ := R.rw
  have hsc := R.sc
  have hne := R.ne
  have q0 : (0 : Int) < m := by omega
  have q1 : (0 : Int) < (m : Int) ∧ (m : Int) < 1073741824 := by omega
  refine w_enter (fn := f_L_taken) (b := b_L_taken) (s := [some (.ref lr), some (.int m), none, none]) rfl ⟨rfl, by decide⟩ rfl rfl ?_
  walk_at "g"
  refine br_dec (fun hg => ?_) (fun hg => ?_)
  · walk_at "g"
    obtain ⟨i, e1, hi⟩ := mod_nat (x := g) hm
    exact ⟨i, by rw [e1], hi, R.put hp, Ext.put _ _ _⟩
  · walk_at "g"
    refine br_dec (fun hl => ?_) (fun hl => ?_)
    · walk_at "g"
      obtain ⟨i, e1, hi⟩ := mod_nat (x := (s * 48271 + 11) % 2147483647 / 7) hm
      exact ⟨i, congrArg D.int e1, hi, (R.put (p := p + 1) (s := s) (g := g) (by omega)).put (p := p + 1) (s := (s * 48271 + 11) % 2147483647) (g := g) (by omega), (Ext.put _ _ _).trans (Ext.put _ _ _)⟩
    · have hz : ∃ z : Int, ati (ns.map D.int) (p + 1 - 1) = some (.int z) := by
        rw [List.length_map] at hl
        have h1 : p.toNat < ns.length := by omega
        refine ⟨ns[p.toNat], ?_⟩
        unfold ati ixn
        rw [if_pos (by omega), List.length_map, if_pos (by omega)]
        show (ns.map D.int)[(p + 1 - 1).toNat]? = _
        rw [List.getElem?_map, show (p + 1 - 1).toNat = p.toNat by omega, List.getElem?_eq_getElem h1]
        rfl
      obtain ⟨z, hz⟩ := hz
      walk_at "g"
      refine br_dec (fun hc => ?_) (fun hc => ?_)
      · walk_at "g"
        obtain ⟨i, e1, hi⟩ := mod_nat (x := z) hm
        exact ⟨i, congrArg D.int e1, hi, ((R.put (p := p + 1) (s := s) (g := g) (by omega)).put (p := p + 1) (s := (s * 48271 + z + 11) % 2147483647) (g := g) (by omega)).put (p := p + 1) (s := (s * 48271 + z + 11) % 2147483647) (by omega), ((Ext.put _ _ _).trans (Ext.put _ _ _)).trans (Ext.put _ _ _)⟩
      · walk_at "g"
        obtain ⟨i, e1, hi⟩ := mod_nat (x := z) hm
        exact ⟨i, congrArg D.int e1, hi, (R.put (p := p + 1) (s := s) (g := g) (by omega)).put (p := p + 1) (s := (s * 48271 + z + 11) % 2147483647) (g := g) (by omega), (Ext.put _ _ _).trans (Ext.put _ _ _)⟩
theorem ati_nat {α : Type} {xs : List α} {i : Nat} (hi : i < xs.length) : ati xs (i : Int) = some xs[i] := by
  unfold ati ixn
  rw [if_pos (by omega), if_pos (by omega)]
  show xs[i]? = _
  exact List.getElem?_eq_getElem hi
/-- one of a tuple -/
theorem t_pickT (R : Row ns h lr) {xs : List D} (hx : xs ≠ []) (hx2 : xs.length < 1073741824) (hn : 4 ≤ n) : Wp (call prog n 28 [.ref lr, .tup xs] h) (fun v h' => v ∈ xs ∧ Row ns h' lr ∧ Ext lr h h') nX := by
  obtain ⟨k, rfl⟩ : ∃ k, n = k + 2 := ⟨n - 2, by omega⟩
  refine w_enter (fn := f_L_pick) (b := b_L_pick) (s := [some (.ref lr), some (.tup xs)]) rfl ⟨rfl, by decide⟩ rfl rfl ?_
  walk_at "g"
  refine w_use (t_taken R (List.length_pos_iff.mpr hx) hx2 (by omega)) ?_
  rintro v h1 ⟨i, rfl, hi, R1, E1⟩
  have := ati_nat hi
  walk_at "g"
  exact ⟨List.getElem_mem hi, R1, E1⟩
/-- one of a list -/
theorem t_pickL (R : Row ns h lr) {l : Nat} {xs : List D} (hl : lstAt h l = some xs) (hne : l ≠ lr) (hx : xs ≠ []) (hx2 : xs.length < 1073741824) (hn : 4 ≤ n) : Wp (call prog n 28 [.ref lr, .ref l] h) (fun v h' => v ∈ xs ∧ Row ns h' lr ∧ Ext lr h h') nX := by
  obtain ⟨k, rfl⟩ : ∃ k, n = k + 2 := ⟨n - 2, by omega⟩
  refine w_enter (fn := f_L_pick) (b := b_L_pick) (s := [some (.ref lr), some (.ref l)]) rfl ⟨rfl, by decide⟩ rfl rfl ?_
  walk_at "g"
  refine w_use (t_taken R (List.length_pos_iff.mpr hx) hx2 (by omega)) ?_
  rintro v h1 ⟨i, rfl, hi, R1, E1⟩
  have := ati_nat hi
  have hl1 := E1.lst hne hl
  walk_at "g"
  exact ⟨List.getElem_mem hi, R1, E1⟩
/-- values without places, up to so deep -/
def Sim : Nat → D → Prop
  | _, .non => True
  | _, .str _ => True
  | _, .int _ => True
  | _, .bl _ => True
  | 0, .tup _ => False
  | n + 1, .tup xs => (∀ x ∈ xs, Sim n x) ∧ xs.length ≤ 1000
  | _, .ref _ => False
theorem t_alike0 {m n : Nat} {d : D} {h : AH} (hs : Sim m d) (ht : ∀ xs, d ≠ .tup xs) (hn : 2 ≤ n) : Wp (call prog n 30 [d, d] h) (fun v h' => v = .bl true ∧ Gr h h') nX := by
  obtain ⟨k, rfl⟩ : ∃ k, n = k + 2 := ⟨n - 2, by omega⟩
  refine w_enter (fn := f_L_alike) (b := b_L_alike) (s := [some (d), some (d), none]) rfl ⟨rfl, by decide⟩ rfl rfl ?_
  cases d with
  | ref l => cases m <;> exact hs.elim
  | tup xs => exact absurd rfl (ht xs)
  | non =>
    walk_at "g"
    refine w_eqP rfl rfl (by decide) ?_
    walk_at "g"
    exact ⟨rfl, Gr.refl⟩
  | str x =>
    walk_at "g"
    exact ⟨rfl, Gr.refl⟩
  | int i =>
    walk_at "g"
    exact ⟨by simp, Gr.refl⟩
  | bl b =>
    walk_at "g"
    exact ⟨by simp, Gr.refl⟩
/-- alike to itself -/
theorem t_alike : ∀ (m n : Nat) (d : D) (h : AH), Sim m d → 2 * m + 2 ≤ n → Wp (call prog n 30 [d, d] h) (fun v h' => v = .bl true ∧ Gr h h') nX := by
  intro m
  induction m with
  | zero =>
    intro n d h hs hn
    refine t_alike0 hs (fun xs e => ?_) (by omega)
    subst e
    exact hs
  | succ m ih =>
    intro n d h hs hn
    by_cases ht : ∃ xs, d = .tup xs
    · obtain ⟨xs, rfl⟩ := ht
      obtain ⟨hs, hl⟩ := hs
      obtain ⟨k, rfl⟩ : ∃ k, n = k + 2 := ⟨n - 2, by omega⟩
      have hrl : (rngF 0 (xs.length : Int).toNat).length ≤ SZ := by rw [rngF_len]; unfold SZ; omega
      have hxl : (xs.length : Int) ≤ 1000000 := by omega
      refine w_enter (fn := f_L_alike) (b := b_L_alike) (s := [some (.tup xs), some (.tup xs), none]) rfl ⟨rfl, by decide⟩ rfl rfl ?_
      walk_at "g"
      refine w_comp (I := fun i ys h' => ys = [] ∧ Gr h h') ⟨rfl, Gr.refl⟩ (fun _ _ _ _ _ => grd_n) (fun i ys x h1 hx q => ?_) (fun ys h1 q => ?_)
      · obtain ⟨rfl, G⟩ := q
        obtain ⟨hi, rfl⟩ := rngF_get hx
        rw [show (0 : Int) + (i : Int) = i by omega]
        have ha := ati_nat hi
        refine ⟨_, rfl, ?_⟩
        walk_at "g"
        refine w_use (ih (k + 1) _ h1 (hs _ (List.getElem_mem hi)) (by omega)) ?_
        rintro v h2 ⟨rfl, G2⟩
        walk_at "g"
        exact ⟨rfl, G.trans G2⟩
      · obtain ⟨rfl, G⟩ := q
        walk_at "g"
        refine w_eqL (xs := []) (ys := []) (by walk_at "h") (by walk_at "h") rfl rfl (by decide) ?_
        walk_at "g"
        exact ⟨rfl, G.trans ((Gr.app _).trans (Gr.app _))⟩
    · exact t_alike0 hs (fun xs e => ht ⟨xs, e⟩) (by omega)
end
end P35

namespace P35
open PySem Mx Q35
/-- a tree as the law holds it -/
def tI : QT → List D
  | .fact s => [.str s, .tup [], .tup []]
  | .op1 f q => [.str f, .tup (tI q), .tup []]
  | .op2 f a b => [.str f, .tup (tI a), .tup (tI b)]
def OP1 : List (List Nat) := [[126], [69, 78], [65, 78], [69, 70], [65, 70], [69, 71], [65, 71]]
def OP2 : List (List Nat) := [[69, 85], [65, 85], [38], [124]]
def OPS : List (List Nat) := [[126], [69, 78], [65, 78], [69, 70], [65, 70], [69, 71], [65, 71], [69, 85], [65, 85], [38], [124]]
def TV (zs : List (List Nat)) : QT → Prop
  | .fact s => s ∈ zs
  | .op1 f q => f ∈ OP1 ∧ TV zs q
  | .op2 f a b => f ∈ OP2 ∧ TV zs a ∧ TV zs b
def FOK (zs : List (List Nat)) : Prop := ∀ s ∈ zs, (∃ n c, s = [n, 64, c] ∧ n ∈ names ∧ c ∈ digits) ∨ (∃ n c, s = [n, 61, c] ∧ n ∈ names ∧ c ∈ names)
theorem FOK.len {zs : List (List Nat)} (h : FOK zs) {s : List Nat} (hs : s ∈ zs) : s.length = 3 := by
  rcases h s hs with ⟨n, c, rfl, _⟩ | ⟨n, c, rfl, _⟩ <;> rfl
theorem szz_sz : ∀ q : QT, szz q = sz q
  | .fact _ => rfl
  | .op1 _ q => congrArg (· + 1) (szz_sz q)
  | .op2 _ a b => by show szz a + szz b + 1 = sz a + sz b + 1; rw [szz_sz a, szz_sz b]
theorem TV.qw {zs : List (List Nat)} (hz : FOK zs) : ∀ {q : QT}, TV zs q → QW q
  | .fact s, h => hz.len h
  | .op1 f q, ⟨h1, h2⟩ => ⟨by
      have : ∀ f ∈ OP1, f = [126] ∨ ∃ c ∈ [69, 65], ∃ s ∈ steps, f = [c, s] := by decide
      rcases this f h1 with h | ⟨c, hc, s, hs, h⟩
      · exact .inl h
      · exact .inr ⟨c, s, h, by simpa using hc, hs⟩, TV.qw hz h2⟩
  | .op2 f a b, ⟨h1, h2, h3⟩ => ⟨by
      have : ∀ f ∈ OP2, f = [38] ∨ f = [124] ∨ f = [69, 85] ∨ f = [65, 85] := by decide
      exact this f h1, TV.qw hz h2, TV.qw hz h3⟩
theorem tI_ne (q : QT) : eqds (tI q) [] = false := by cases q <;> rfl
theorem tI_dep : ∀ q : QT, ∃ n, dep (.tup (tI q)) = some n
  | .fact s => ⟨_, rfl⟩
  | .op1 f q => by
    obtain ⟨n, e⟩ := tI_dep q
    refine ⟨max 0 (max n (max 1 0)) + 1, ?_⟩
    show (deps [.str f, .tup (tI q), .tup []]).map (· + 1) = _
    simp only [deps, dep] at e ⊢
    rw [e]
    rfl
  | .op2 f a b => by
    obtain ⟨n, e⟩ := tI_dep a
    obtain ⟨m, e2⟩ := tI_dep b
    refine ⟨max 0 (max n (max m 0)) + 1, ?_⟩
    show (deps [.str f, .tup (tI a), .tup (tI b)]).map (· + 1) = _
    simp only [deps, dep] at e e2 ⊢
    rw [e, e2]
    rfl
section
local macro_rules | `(tactic| walk_at "n") => `(tactic| first | assumption | (apply Ne.symm; assumption) | omega | (exact kin_ne (by assumption) (by assumption) (by simp)))
local macro_rules | `(tactic| walk_at "o") => `(tactic| first
  | with_reducible assumption
  | with_reducible exact get_new
  | ((with_reducible apply put_get); walk_at "o")
  | ((with_reducible apply put_ne2); walk_at "n"; walk_at "o")
  | ((with_reducible apply app_get); walk_at "o"))
local macro_rules | `(tactic| walk_at "h") => `(tactic| first
  | with_reducible assumption
  | ((with_reducible apply lst_of); walk_at "o")
  | ((with_reducible apply lst_app); walk_at "h")
  | ((with_reducible apply lst_put2); walk_at "n"; walk_at "h")
  | walk_at "o")
local macro_rules | `(tactic| walk_at "z") => `(tactic| first | assumption | (simp only [List.length_append, List.length_cons, List.length_nil, List.length_map, SZ]; omega) | (simp [SZ] <;> omega))
local macro_rules | `(tactic| walk_at "T") => `(tactic| first | assumption | exact decide_eq_true rfl | exact decide_eq_true (by first | assumption | omega) | exact nd_T (by first | assumption | omega) | decide)
local macro_rules | `(tactic| walk_at "F") => `(tactic| first | assumption | exact nd_F rfl | exact decide_eq_false (by first | assumption | omega) | exact nd_F (by first | assumption | omega) | decide)
local macro_rules | `(tactic| walk_at "r") => `(tactic| first
  | ((with_reducible refine (show gdW _ _ from ?_)); first | refine sc_mk (by walk_at "z") ?_ | refine gd_mk (by walk_at "T") ?_)
  | ((with_reducible refine (show brW _ _ _ from ?_)); first | refine br_T (by walk_at "T") ?_ | refine br_F (by walk_at "F") ?_)
  | ((with_reducible refine (show LkF _ _ _ _ from ?_)); refine LkF.mk (by walk_at "h") (by exact rfl) ?_)
  | ((with_reducible refine (show LkC _ _ _ from ?_)); refine LkC.mk (by walk_at "h") ?_)
  | ((with_reducible refine (show LkL _ _ _ from ?_)); refine LkL.mk (by walk_at "h") ?_)
  | ((with_reducible refine (show LkM _ _ _ from ?_)); refine LkM.mk (by walk_at "h") ?_)
  | ((with_reducible refine (show LkO _ _ from ?_)); refine LkO.mk (tru_L (by walk_at "h")) ?_)
  | ((with_reducible refine (show optW _ _ from ?_)); refine opt_mk (by assumption) ?_)
  | ((with_reducible refine (show Gd _ _ from ?_)); first
    | ((with_reducible refine (show Gd (bmty _ _ _ = true) _ from ?_)); refine Gd.mk (bmty_app (by walk_at "h")) ?_)
    | ((with_reducible refine (show Gd (lstQ _ _ = true) _ from ?_)); refine Gd.mk (lstQ_r (by walk_at "h")) ?_)
    | ((with_reducible refine Gd.mk (small_i ?_ ?_) ?_); omega; omega)
    | ((with_reducible refine Gd.mk (small_2 ?_ ?_ ?_ ?_) ?_); omega; omega; omega; omega)
    | ((with_reducible refine Gd.mk ?_ ?_); (first | assumption | omega | decide)))
  | ((with_reducible refine (show Wp (fauK _ _ _ _ _ _ _) _ _ from ?_)); refine w_fauC (by walk_at "h") rfl (of_decide_eq_true rfl) ?_)
  | ((with_reducible refine (show Wp (fldK _ _ _ _ _ _) _ _ from ?_)); refine w_fldK (by walk_at "h") (of_decide_eq_true rfl) rfl ?_)
  | ((with_reducible refine (show Wp (ixop _ _ _) _ _ from ?_)); refine w_ixL (by walk_at "h") ?_)
  | ((with_reducible refine (show Wp (b1op _ _ _) _ _ from ?_)); refine w_lenL (by walk_at "h") ?_)
  | ((with_reducible refine (show Wp (bmop _ _ _ _) _ _ from ?_)); refine w_app (by walk_at "h") (by walk_at "z") ?_)
  | ((with_reducible refine (show Wp (revop _ _) _ _ from ?_)); refine w_revL (by walk_at "h") ?_)
  | ((with_reducible refine (show Wp (slcop _ _ _ _) _ _ from ?_)); refine w_slcL (by walk_at "h") ?_)
  | ((with_reducible refine (show Wp (setop _ _ _ _) _ _ from ?_)); refine w_setL (by walk_at "h") ?_)
  | with_reducible refine exW_ok _ _ _ ?_
  | with_reducible refine (evW_ok _ _).v ?_
  | with_reducible refine (evW_ok _ _).c ?_)
local macro_rules | `(tactic| walk_at "s") => `(tactic| (walk_at "r"; conv => whnf))
local macro_rules | `(tactic| walk_at "g") => `(tactic| ((conv => whnf); repeat walk_at "s"))
variable {ns : List Int} {h : AH} {lr n l : Nat} {Q : D → AH → Prop} {X : Nat → Fs → AH → Prop} {zs : List (List Nat)}
theorem w_nilT {q : QT} (k : Q (.bl false) h) : Wp (cmpR .eq (.tup (tI q)) (.tup []) h) Q X := by
  obtain ⟨m, e⟩ := tI_dep q
  refine w_eqP e (b := 1) rfl (by omega) ?_
  have : eqd (.tup (tI q)) (.tup []) = false := tI_ne q
  rw [this]
  exact k
theorem w_nilN (k : Q (.bl true) h) : Wp (cmpR .eq (.tup []) (.tup []) h) Q X := w_eqP rfl rfl (by decide) k
theorem t_pickS (R : Row ns h lr) {l : Nat} (zs : List (List Nat)) (hl : lstAt h l = some (zs.map .str)) (hne : l ≠ lr) (hx : zs ≠ []) (hx2 : zs.length < 1000) (hn : 4 ≤ n) : Wp (call prog n 28 [.ref lr, .ref l] h) (fun v h' => ∃ s ∈ zs, v = .str s ∧ Row ns h' lr ∧ Ext lr h h') nX := by
  refine w_use (t_pickL R hl hne (by intro e; exact hx (List.map_eq_nil_iff.mp e)) (by rw [List.length_map]; omega) hn) ?_
  rintro v h' ⟨hv, R1, E1⟩
  obtain ⟨s, hs, rfl⟩ := List.mem_map.mp hv
  exact ⟨s, hs, rfl, R1, E1⟩
theorem t_pickI (R : Row ns h lr) {l : Nat} (zs : List Int) (hl : lstAt h l = some (zs.map .int)) (hne : l ≠ lr) (hx : zs ≠ []) (hx2 : zs.length < 1000) (hn : 4 ≤ n) : Wp (call prog n 28 [.ref lr, .ref l] h) (fun v h' => ∃ s ∈ zs, v = .int s ∧ Row ns h' lr ∧ Ext lr h h') nX := by
  refine w_use (t_pickL R hl hne (by intro e; exact hx (List.map_eq_nil_iff.mp e)) (by rw [List.length_map]; omega) hn) ?_
  rintro v h' ⟨hv, R1, E1⟩
  obtain ⟨s, hs, rfl⟩ := List.mem_map.mp hv
  exact ⟨s, hs, rfl, R1, E1⟩
theorem Gr.xt {h h' h'' : AH} (G : Gr h h') (E : Ext lr h' h'') : Ext lr h h'' := (G.ext lr).trans E
theorem t_ask (hz : zs ≠ []) (hz2 : zs.length < 1000) : ∀ (deep n : Nat) (h : AH), Row ns h lr → lstAt h l = some (zs.map .str) → l ≠ lr → 2 * deep + 6 ≤ n → Wp (call prog n 31 [.ref lr, .ref l, .int deep] h) (fun v h' => ∃ q, v = .tup (tI q) ∧ TV zs q ∧ dp q ≤ deep ∧ Row ns h' lr ∧ Ext lr h h') nX := by
  intro deep
  induction deep with
  | zero =>
    intro n h R hl hne hn
    obtain ⟨k, rfl⟩ : ∃ k, n = k + 2 := ⟨n - 2, by omega⟩
    refine w_enter (fn := f_L_ask) (b := b_L_ask) (s := [some (.ref lr), some (.ref l), some (.int (0 : Nat)), none, none]) rfl ⟨rfl, by decide⟩ rfl rfl ?_
    walk_at "g"
    refine w_use (t_pickS R zs hl hne hz hz2 (by omega)) ?_
    rintro v h1 ⟨s, hs, rfl, R1, E1⟩
    walk_at "g"
    exact ⟨.fact s, rfl, hs, Nat.le_refl _, R1, E1⟩
  | succ d ih =>
    intro n h R hl hne hn
    obtain ⟨k, rfl⟩ : ∃ k, n = k + 2 := ⟨n - 2, by omega⟩
    have ed : ((d + 1 : Nat) : Int) - 1 = (d : Nat) := by omega
    have hlr := R.lt
    refine w_enter (fn := f_L_ask) (b := b_L_ask) (s := [some (.ref lr), some (.ref l), some (.int (d + 1 : Nat)), none, none]) rfl ⟨rfl, by decide⟩ rfl rfl ?_
    walk_at "g"
    refine w_use (t_taken (m := 5) R (by decide) (by decide) (by omega)) ?_
    rintro v h1 ⟨i, rfl, hi, R1, E1⟩
    have hl1 := E1.lst hne hl
    walk_at "g"
    refine br_dec (fun h0 => ?_) (fun h0 => ?_)
    · walk_at "g"
      refine w_use (t_pickS R1 zs hl1 hne hz hz2 (by omega)) ?_
      rintro v h2 ⟨s, hs, rfl, R2, E2⟩
      walk_at "g"
      exact ⟨.fact s, rfl, hs, Nat.zero_le _, R2, E1.trans E2⟩
    · walk_at "g"
      have hlr1 := R1.lt
      refine w_use (t_pickS (R1.gr (Gr.app _)) OPS (lst_of get_new) (by omega) (by decide) (by decide) (by omega)) ?_
      rintro v h2 ⟨f, hf, rfl, R2, E2⟩
      have E02 := E1.trans (Gr.xt (Gr.app _) E2)
      have hl2 := E02.lst hne hl
      walk_at "g"
      rw [ed]
      refine w_use (ih (k + 1) h2 R2 hl2 hne (by omega)) ?_
      rintro v h3 ⟨q1, rfl, ht1, hd1, R3, E3⟩
      have E03 := E02.trans E3
      have hl3 := E03.lst hne hl
      walk_at "g"
      refine w_inT [[69, 85], [65, 85], [38], [124]] rfl ?_
      walk_at "g"
      refine br_dec (fun ho => ?_) (fun ho => ?_)
      · walk_at "g"
        rw [ed]
        refine w_use (ih (k + 1) h3 R3 hl3 hne (by omega)) ?_
        rintro v h4 ⟨q2, rfl, ht2, hd2, R4, E4⟩
        walk_at "g"
        exact ⟨.op2 f q1 q2, rfl, ⟨ho, ht1, ht2⟩, by show max (dp q1) (dp q2) + 1 ≤ d + 1; omega, R4, E03.trans E4⟩
      · walk_at "g"
        refine ⟨.op1 f q1, rfl, ⟨?_, ht1⟩, by show dp q1 + 1 ≤ d + 1; omega, R3, E03⟩
        have : ∀ f ∈ OPS, f ∉ [[69, 85], [65, 85], [38], [124]] → f ∈ OP1 := by decide
        exact this f hf ho
theorem t_asked (hz : FOK zs) : ∀ (q : QT) (n : Nat) (lev : Int) (h : AH), TV zs q → sz q ≤ 200 → sz q + 2 ≤ n → Wp (call prog n 32 [.tup (tI q), .int lev] h) (fun v h' => v = .str (wq q lev) ∧ h' = h) nX
  | .fact s, n, lev, h, hw, hs, hn => by
    obtain ⟨k, rfl⟩ : ∃ k, n = k + 2 := ⟨n - 2, by omega⟩
    refine w_enter (fn := f_L_asked) (b := b_L_asked) (s := [some (.tup [.str s, .tup [], .tup []]), some (.int lev), none, none, none, none, none]) rfl ⟨rfl, by decide⟩ rfl rfl ?_
    walk_at "g"
    refine w_nilN ?_
    walk_at "g"
    refine w_nilN ?_
    walk_at "g"
    exact ⟨rfl, rfl⟩
  | .op1 f q, n, lev, h, ⟨hf, hw⟩, hs, hn => by
    obtain ⟨k, rfl⟩ : ∃ k, n = k + 2 := ⟨n - 2, by omega⟩
    unfold sz at hs hn
    have := wq_len q 2 (hw.qw hz)
    have f4 : f.length ≤ 2 := by
      have : ∀ f ∈ OP1, f.length ≤ 2 := by decide
      exact this f hf
    refine w_enter (fn := f_L_asked) (b := b_L_asked) (s := [some (.tup [.str f, .tup (tI q), .tup []]), some (.int lev), none, none, none, none, none]) rfl ⟨rfl, by decide⟩ rfl rfl ?_
    walk_at "g"
    refine w_nilN ?_
    walk_at "g"
    refine w_nilT ?_
    walk_at "g"
    refine w_use (t_asked hz q (k + 1) 2 h hw (by omega) (by omega)) ?_
    rintro v h' ⟨rfl, rfl⟩
    walk_at "g"
    exact ⟨rfl, rfl⟩
  | .op2 f a b, n, lev, h, ⟨hf, wa, wb⟩, hs, hn => by
    obtain ⟨k, rfl⟩ : ∃ k, n = k + 2 := ⟨n - 2, by omega⟩
    unfold sz at hs hn
    have pa := sz_pos a
    have pb := sz_pos b
    have la0 := wq_len a 0 (wa.qw hz)
    have la1 := wq_len a 1 (wa.qw hz)
    have lb0 := wq_len b 0 (wb.qw hz)
    have lb1 := wq_len b 1 (wb.qw hz)
    have lb2 := wq_len b 2 (wb.qw hz)
    have IA := fun lev => t_asked hz a (k + 1) lev h wa (by omega) (by omega)
    have IB := fun lev => t_asked hz b (k + 1) lev h wb (by omega) (by omega)
    have hf : f = [69, 85] ∨ f = [65, 85] ∨ f = [38] ∨ f = [124] := by simpa [OP2] using hf
    refine w_enter (fn := f_L_asked) (b := b_L_asked) (s := [some (.tup [.str f, .tup (tI a), .tup (tI b)]), some (.int lev), none, none, none, none, none]) rfl ⟨rfl, by decide⟩ rfl rfl ?_
    rcases hf with rfl | rfl | rfl | rfl
    · walk_at "g"
      refine w_nilT ?_
      walk_at "g"
      refine w_inT [[69, 85], [65, 85]] rfl ?_
      walk_at "g"
      refine w_use (IA _) ?_
      rintro v h' ⟨rfl, rfl⟩
      walk_at "g"
      refine w_use (IB _) ?_
      rintro v h' ⟨rfl, rfl⟩
      walk_at "g"
      exact ⟨by simp [wq], rfl⟩
    · walk_at "g"
      refine w_nilT ?_
      walk_at "g"
      refine w_inT [[69, 85], [65, 85]] rfl ?_
      walk_at "g"
      refine w_use (IA _) ?_
      rintro v h' ⟨rfl, rfl⟩
      walk_at "g"
      refine w_use (IB _) ?_
      rintro v h' ⟨rfl, rfl⟩
      walk_at "g"
      exact ⟨by simp [wq], rfl⟩
    · walk_at "g"
      refine w_nilT ?_
      walk_at "g"
      refine w_inT [[69, 85], [65, 85]] rfl ?_
      walk_at "g"
      refine w_use (IA _) ?_
      rintro v h' ⟨rfl, rfl⟩
      walk_at "g"
      refine w_use (IB _) ?_
      rintro v h' ⟨rfl, rfl⟩
      walk_at "g"
      refine br_dec (fun hx => ?_) (fun hx => ?_)
      · walk_at "g"
        exact ⟨by simp [wq, hx], rfl⟩
      · walk_at "g"
        exact ⟨by simp [wq, hx], rfl⟩
    · walk_at "g"
      refine w_nilT ?_
      walk_at "g"
      refine w_inT [[69, 85], [65, 85]] rfl ?_
      walk_at "g"
      refine w_use (IA _) ?_
      rintro v h' ⟨rfl, rfl⟩
      walk_at "g"
      refine w_use (IB _) ?_
      rintro v h' ⟨rfl, rfl⟩
      walk_at "g"
      refine br_dec (fun hx => ?_) (fun hx => ?_)
      · walk_at "g"
        exact ⟨by simp [wq, hx], rfl⟩
      · walk_at "g"
        exact ⟨by simp [wq, hx], rfl⟩
/-- blanks -/
theorem t_blank (R : Row ns h lr) (hn : 6 ≤ n) : Wp (call prog n 33 [.ref lr] h) (fun v h' => ∃ x, v = .str x ∧ sg x = [] ∧ x.length ≤ 2 ∧ Row ns h' lr ∧ Ext lr h h') nX := by
  obtain ⟨k, rfl⟩ : ∃ k, n = k + 2 := ⟨n - 2, by omega⟩
  have hlr := R.lt
  refine w_enter (fn := f_L_blank) (b := b_L_blank) (s := [some (.ref lr)]) rfl ⟨rfl, by decide⟩ rfl rfl ?_
  walk_at "g"
  refine w_use (t_pickI (R.gr (Gr.app _)) [0, 0, 0, 1, 2] (lst_of get_new) (by omega) (by decide) (by decide) (by omega)) ?_
  rintro v h1 ⟨j, hj, rfl, R1, E1⟩
  have hj : j = 0 ∨ j = 1 ∨ j = 2 := by
    have : ∀ j ∈ ([0, 0, 0, 1, 2] : List Int), j = 0 ∨ j = 1 ∨ j = 2 := by decide
    exact this j hj
  rcases hj with rfl | rfl | rfl
  · walk_at "g"
    exact ⟨_, rfl, rfl, by decide, R1, Gr.xt (Gr.app _) E1⟩
  · walk_at "g"
    exact ⟨_, rfl, rfl, by decide, R1, Gr.xt (Gr.app _) E1⟩
  · walk_at "g"
    exact ⟨_, rfl, rfl, by decide, R1, Gr.xt (Gr.app _) E1⟩
end
end P35

namespace Q35
theorem AL.a0 {l : Int} {q : QT} {cs : List Nat} {N : Nat} (h : AL l q cs N) : A0 q cs N := by
  unfold AL at h
  split at h
  · exact h
  · split at h
    · exact h.a0
    · exact A2.a1 h |>.a0
theorem AL.down {l m : Int} {q : QT} {cs : List Nat} {N : Nat} (h : AL l q cs N) (hm : m ≤ l) : AL m q cs N := by
  by_cases h0 : m ≤ 0
  · exact h.a0.al h0
  · by_cases h1 : m = 1
    · subst h1
      unfold AL at h ⊢
      rw [if_neg (by omega)] at h
      rw [if_neg (by omega), if_pos rfl]
      split at h
      · exact h
      · exact A2.a1 h
    · unfold AL at h ⊢
      rw [if_neg (by omega), if_neg (by omega)] at h ⊢
      exact h
theorem AL.up {l : Int} {q : QT} {cs : List Nat} {N M : Nat} (h : AL l q cs N) (hm : N ≤ M) : AL l q cs M := by
  unfold AL at h ⊢
  split
  · rename_i k; rw [if_pos k] at h; exact A0.up h hm
  · rename_i k; rw [if_neg k] at h
    split
    · rename_i k; rw [if_pos k] at h; exact A1.up h hm
    · rename_i k; rw [if_neg k] at h; exact A2.up h hm
theorem AL.a1 {q : QT} {cs : List Nat} {N : Nat} (h : AL 1 q cs N) : A1 q cs N := h
theorem AL.a2 {q : QT} {cs : List Nat} {N : Nat} (h : AL 2 q cs N) : A2 q cs N := h
theorem txt_par {l m : Int} {q : QT} {x g : List Nat} {N M : Nat} (h : AL l q (sg x) N) (hg : sg g = []) (hM : N + 1 ≤ M) : AL m q (sg ([40] ++ g ++ x ++ [41])) M := by
  rw [sg_app, sg_app, sg_app, hg, List.append_nil]
  exact ((a_par h.a0).up hM).al m
theorem txt_gap {l m : Int} {q : QT} {x g : List Nat} {N M : Nat} (h : AL l q (sg x) N) (hg : sg g = []) (hm : m ≤ l) (hM : N + 1 ≤ M) : AL m q (sg (x ++ g)) M := by
  rw [sg_app, hg, List.append_nil]
  exact (h.down hm).up (by omega)
end Q35
namespace P35
open PySem Mx Q35
theorem sg_join {g : List Nat} (hg : sg g = []) : ∀ (s : List Nat), sg (joinT g (s.map fun c => [c])) = sg s
  | [] => rfl
  | [c] => rfl
  | c :: d :: s => by
    have := sg_join hg (d :: s)
    show sg ([c] ++ g ++ joinT g ((d :: s).map fun c => [c])) = _
    rw [sg_app, sg_app, this, hg, List.append_nil, ← sg_app]
    rfl
theorem lens_1 : ∀ (s : List Nat), lens (s.map fun c => [c]) = s.length
  | [] => rfl
  | c :: s => by show 1 + lens (s.map fun c => [c]) = _; rw [lens_1 s, List.length_cons]; omega
theorem join_len {g : List Nat} : ∀ (s : List Nat), (joinT g (s.map fun c => [c])).length ≤ s.length + g.length * s.length
  | [] => Nat.le_refl _
  | [c] => by show 1 ≤ 1 + g.length * 1; omega
  | c :: d :: s => by
    have := join_len (g := g) (d :: s)
    show ([c] ++ g ++ joinT g ((d :: s).map fun c => [c])).length ≤ (d :: s).length + 1 + g.length * ((d :: s).length + 1)
    rw [List.length_append, List.length_append, Nat.mul_add]
    simp only [List.length_cons, List.length_nil] at this ⊢
    omega
theorem chars_map (s : List Nat) : (s.map fun c => [c]).map D.str = chars s := by rw [List.map_map]; rfl
section
local macro_rules | `(tactic| walk_at "n") => `(tactic| first | assumption | (apply Ne.symm; assumption) | omega | (exact kin_ne (by assumption) (by assumption) (by simp)))
local macro_rules | `(tactic| walk_at "o") => `(tactic| first
  | with_reducible assumption
  | with_reducible exact get_new
  | ((with_reducible apply put_get); walk_at "o")
  | ((with_reducible apply put_ne2); walk_at "n"; walk_at "o")
  | ((with_reducible apply app_get); walk_at "o"))
local macro_rules | `(tactic| walk_at "h") => `(tactic| first
  | with_reducible assumption
  | ((with_reducible apply lst_of); walk_at "o")
  | ((with_reducible apply lst_app); walk_at "h")
  | ((with_reducible apply lst_put2); walk_at "n"; walk_at "h")
  | walk_at "o")
local macro_rules | `(tactic| walk_at "z") => `(tactic| first | assumption | (simp only [List.length_append, List.length_cons, List.length_nil, List.length_map, SZ]; omega) | (simp [SZ] <;> omega))
local macro_rules | `(tactic| walk_at "T") => `(tactic| first | assumption | exact decide_eq_true rfl | exact decide_eq_true (by first | assumption | omega) | exact nd_T (by first | assumption | omega) | decide)
local macro_rules | `(tactic| walk_at "F") => `(tactic| first | assumption | exact nd_F rfl | exact decide_eq_false (by first | assumption | omega) | exact nd_F (by first | assumption | omega) | decide)
local macro_rules | `(tactic| walk_at "r") => `(tactic| first
  | ((with_reducible refine (show gdW _ _ from ?_)); first | refine sc_mk (by walk_at "z") ?_ | refine gd_mk (by walk_at "T") ?_)
  | ((with_reducible refine (show brW _ _ _ from ?_)); first | refine br_T (by walk_at "T") ?_ | refine br_F (by walk_at "F") ?_)
  | ((with_reducible refine (show LkF _ _ _ _ from ?_)); refine LkF.mk (by walk_at "h") (by exact rfl) ?_)
  | ((with_reducible refine (show LkC _ _ _ from ?_)); refine LkC.mk (by walk_at "h") ?_)
  | ((with_reducible refine (show LkL _ _ _ from ?_)); refine LkL.mk (by walk_at "h") ?_)
  | ((with_reducible refine (show LkM _ _ _ from ?_)); refine LkM.mk (by walk_at "h") ?_)
  | ((with_reducible refine (show LkO _ _ from ?_)); refine LkO.mk (tru_L (by walk_at "h")) ?_)
  | ((with_reducible refine (show optW _ _ from ?_)); refine opt_mk (by assumption) ?_)
  | ((with_reducible refine (show Gd _ _ from ?_)); first
    | ((with_reducible refine (show Gd (bmty _ _ _ = true) _ from ?_)); refine Gd.mk (bmty_app (by walk_at "h")) ?_)
    | ((with_reducible refine (show Gd (lstQ _ _ = true) _ from ?_)); refine Gd.mk (lstQ_r (by walk_at "h")) ?_)
    | ((with_reducible refine Gd.mk (small_i ?_ ?_) ?_); omega; omega)
    | ((with_reducible refine Gd.mk (small_2 ?_ ?_ ?_ ?_) ?_); omega; omega; omega; omega)
    | ((with_reducible refine Gd.mk ?_ ?_); (first | assumption | omega | decide)))
  | ((with_reducible refine (show Wp (fauK _ _ _ _ _ _ _) _ _ from ?_)); refine w_fauC (by walk_at "h") rfl (of_decide_eq_true rfl) ?_)
  | ((with_reducible refine (show Wp (fldK _ _ _ _ _ _) _ _ from ?_)); refine w_fldK (by walk_at "h") (of_decide_eq_true rfl) rfl ?_)
  | ((with_reducible refine (show Wp (ixop _ _ _) _ _ from ?_)); refine w_ixL (by walk_at "h") ?_)
  | ((with_reducible refine (show Wp (b1op _ _ _) _ _ from ?_)); refine w_lenL (by walk_at "h") ?_)
  | ((with_reducible refine (show Wp (bmop _ _ _ _) _ _ from ?_)); refine w_app (by walk_at "h") (by walk_at "z") ?_)
  | ((with_reducible refine (show Wp (revop _ _) _ _ from ?_)); refine w_revL (by walk_at "h") ?_)
  | ((with_reducible refine (show Wp (slcop _ _ _ _) _ _ from ?_)); refine w_slcL (by walk_at "h") ?_)
  | ((with_reducible refine (show Wp (setop _ _ _ _) _ _ from ?_)); refine w_setL (by walk_at "h") ?_)
  | with_reducible refine exW_ok _ _ _ ?_
  | with_reducible refine (evW_ok _ _).v ?_
  | with_reducible refine (evW_ok _ _).c ?_)
local macro_rules | `(tactic| walk_at "s") => `(tactic| (walk_at "r"; conv => whnf))
local macro_rules | `(tactic| walk_at "g") => `(tactic| ((conv => whnf); repeat walk_at "s"))
local macro_rules | `(tactic| walk_at "d") => `(tactic| (simp only [dp]; omega))
local macro_rules | `(tactic| walk_at "e") => `(tactic| (simp only [List.length_append, List.length_cons, List.length_nil, sz]; omega))
variable {ns : List Int} {h : AH} {lr n l : Nat} {Q : D → AH → Prop} {X : Nat → Fs → AH → Prop} {zs : List (List Nat)}
theorem w_join1 {g s : List Nat} (h1 : g.length ≤ 2) (h2 : s.length ≤ 3) (k : Q (.str (joinT g (s.map fun c => [c]))) h) : Wp (joinop (.str g) (chars s) h) Q X := by
  refine w_joinS (s.map fun c => [c]) (chars_map s) ?_ k
  rw [lens_1, List.length_map]
  have : g.length * s.length ≤ 2 * 3 := Nat.mul_le_mul h1 h2
  unfold SZ
  omega
theorem t_text (hz : FOK zs) : ∀ (q : QT) (n : Nat) (lev : Int) (h : AH), TV zs q → sz q ≤ 63 → dp q + 8 ≤ n → Row ns h lr → Wp (call prog n 34 [.ref lr, .tup (tI q), .int lev] h) (fun v h' => ∃ x, v = .str x ∧ AL lev q (sg x) (2 * dp q + 1) ∧ x.length ≤ 20 * sz q ∧ Row ns h' lr ∧ Ext lr h h') nX
  | .fact s, n, lev, h, hw, hs, hn, R => by
    obtain ⟨k, rfl⟩ : ∃ k, n = k + 2 := ⟨n - 2, by omega⟩
    have hs3 : s.length = 3 := hz.len hw
    refine w_enter (fn := f_L_text) (b := b_L_text) (s := [some (.ref lr), some (.tup [.str s, .tup [], .tup []]), some (.int lev), none, none, none, none, none, none]) rfl ⟨rfl, by decide⟩ rfl rfl ?_
    walk_at "g"
    refine w_use (t_blank R (by omega)) ?_
    rintro v h1 ⟨g, rfl, hg, hgl, RR, EE⟩
    have hjl := join_len (g := g) s
    have hgm : g.length * s.length ≤ 2 * 3 := Nat.mul_le_mul hgl (by omega)
    have hA : AL 3 (.fact s) (sg (joinT g (s.map fun c => [c]))) 0 := by
      rw [sg_join hg]
      rcases hz s hw with ⟨n, c, rfl, h1, h2⟩ | ⟨n, c, rfl, h1, h2⟩
      · have e : sg [n, 64, c] = [n, 64, c] := by
          have h3 : n ≠ 32 := by intro e; subst e; revert h1; decide
          have h4 : c ≠ 32 := by intro e; subst e; revert h2; decide
          simp [sg, h3, h4]
        rw [e]
        exact (a_fact1 h1 h2).al 3
      · have e : sg [n, 61, c] = [n, 61, c] := by
          have h3 : n ≠ 32 := by intro e; subst e; revert h1; decide
          have h4 : c ≠ 32 := by intro e; subst e; revert h2; decide
          simp [sg, h3, h4]
        rw [e]
        exact (a_fact2 h1 h2).al 3
    walk_at "g"
    refine w_nilN ?_
    walk_at "g"
    refine w_join1 hgl (by omega) ?_
    walk_at "g"
    refine br_dec (fun hx => ?_) (fun hx => ?_)
    · walk_at "g"
      exact ⟨_, rfl, txt_par hA hg (by walk_at "d"), by walk_at "e", RR, EE⟩
    · walk_at "g"
      refine w_use (t_taken (m := 5) RR (by decide) (by decide) (by omega)) ?_
      rintro v hh ⟨i, rfl, hi, RR2, EE2⟩
      walk_at "g"
      refine br_dec (fun h0 => ?_) (fun h0 => ?_)
      · walk_at "g"
        exact ⟨_, rfl, txt_par hA hg (by walk_at "d"), by walk_at "e", RR2, EE.trans EE2⟩
      · walk_at "g"
        exact ⟨_, rfl, txt_gap hA hg (by omega) (by walk_at "d"), by walk_at "e", RR2, EE.trans EE2⟩
  | .op1 f q, n, lev, h, ⟨hf, hw⟩, hs, hn, R => by
    obtain ⟨k, rfl⟩ : ∃ k, n = k + 2 := ⟨n - 2, by omega⟩
    unfold sz at hs
    unfold dp at hn
    have f4 : f.length ≤ 2 := by
      have : ∀ f ∈ OP1, f.length ≤ 2 := by decide
      exact this f hf
    refine w_enter (fn := f_L_text) (b := b_L_text) (s := [some (.ref lr), some (.tup [.str f, .tup (tI q), .tup []]), some (.int lev), none, none, none, none, none, none]) rfl ⟨rfl, by decide⟩ rfl rfl ?_
    walk_at "g"
    refine w_use (t_blank R (by omega)) ?_
    rintro v h1 ⟨g, rfl, hg, hgl, R1, E1⟩
    have hjl := join_len (g := g) f
    have hgm : g.length * f.length ≤ 2 * 2 := Nat.mul_le_mul hgl f4
    walk_at "g"
    refine w_nilT ?_
    walk_at "g"
    refine w_nilN ?_
    walk_at "g"
    refine w_join1 hgl (by omega) ?_
    walk_at "g"
    refine w_use (t_text hz q (k + 1) 2 h1 hw (by omega) (by omega) R1) ?_
    rintro v h2 ⟨x, rfl, hx, hxl, RR, E2⟩
    have EE := E1.trans E2
    have hA : AL 2 (.op1 f q) (sg (joinT g (f.map fun c => [c]) ++ g ++ x)) (2 * dp q + 1) := by
      rw [sg_app, sg_app, sg_join hg, hg, List.append_nil]
      have : ∀ f ∈ OP1, f = [126] ∨ ∃ c ∈ [69, 65], ∃ s ∈ steps, f = [c, s] := by decide
      rcases this f hf with rfl | ⟨c, hc, s, hs, rfl⟩
      · exact (a_not hx.a2).al 2
      · have hc : c = 69 ∨ c = 65 := by simpa using hc
        have e : sg [c, s] = [c, s] := by
          have h3 : c ≠ 32 := by omega
          have h4 : s ≠ 32 := by intro e; subst e; revert hs; decide
          simp [sg, h3, h4]
        rw [e]
        exact (a_step hc hs hx.a2).al 2
    walk_at "g"
    refine br_dec (fun hx => ?_) (fun hx => ?_)
    · walk_at "g"
      exact ⟨_, rfl, txt_par hA hg (by walk_at "d"), by walk_at "e", RR, EE⟩
    · walk_at "g"
      refine w_use (t_taken (m := 5) RR (by decide) (by decide) (by omega)) ?_
      rintro v hh ⟨i, rfl, hi, RR2, EE2⟩
      walk_at "g"
      refine br_dec (fun h0 => ?_) (fun h0 => ?_)
      · walk_at "g"
        exact ⟨_, rfl, txt_par hA hg (by walk_at "d"), by walk_at "e", RR2, EE.trans EE2⟩
      · walk_at "g"
        exact ⟨_, rfl, txt_gap hA hg (by omega) (by walk_at "d"), by walk_at "e", RR2, EE.trans EE2⟩
  | .op2 f a b, n, lev, h, ⟨hf, wa, wb⟩, hs, hn, R => by
    obtain ⟨k, rfl⟩ : ∃ k, n = k + 2 := ⟨n - 2, by omega⟩
    unfold sz at hs
    unfold dp at hn
    have pa := sz_pos a
    have pb := sz_pos b
    have da : dp a ≤ max (dp a) (dp b) := Nat.le_max_left _ _
    have db : dp b ≤ max (dp a) (dp b) := Nat.le_max_right _ _
    have IA := fun lev h R => t_text hz a (k + 1) lev h wa (by omega) (by omega) R
    have IB := fun lev h R => t_text hz b (k + 1) lev h wb (by omega) (by omega) R
    have hf : f = [69, 85] ∨ f = [65, 85] ∨ f = [38] ∨ f = [124] := by simpa [OP2] using hf
    refine w_enter (fn := f_L_text) (b := b_L_text) (s := [some (.ref lr), some (.tup [.str f, .tup (tI a), .tup (tI b)]), some (.int lev), none, none, none, none, none, none]) rfl ⟨rfl, by decide⟩ rfl rfl ?_
    rcases hf with rfl | rfl | rfl | rfl
    · walk_at "g"
      refine w_use (t_blank R (by omega)) ?_
      rintro v h1 ⟨g, rfl, hg, hgl, R1, E1⟩
      walk_at "g"
      refine w_nilT ?_
      walk_at "g"
      refine w_nilT ?_
      walk_at "g"
      refine w_inT [[69, 85], [65, 85]] rfl ?_
      walk_at "g"
      refine w_use (IA 0 h1 R1) ?_
      rintro v h2 ⟨x, rfl, hx, hxl, R2, E2⟩
      walk_at "g"
      refine w_use (IB 0 h2 R2) ?_
      rintro v h3 ⟨y, rfl, hy, hyl, RR, E3⟩
      have EE := (E1.trans E2).trans E3
      have hA : AL 3 (.op2 [69, 85] a b) (sg ([69] ++ g ++ [40] ++ x ++ g ++ [85] ++ g ++ y ++ [41])) (2 * max (dp a) (dp b) + 1 + 1) := by
        have e : sg ([69] ++ g ++ [40] ++ x ++ g ++ [85] ++ g ++ y ++ [41]) = [69, 40] ++ sg x ++ [85] ++ sg y ++ [41] := by
          simp only [sg_app, hg, List.append_nil]
          rfl
        rw [e]
        exact (a_until (by decide) (hx.a0.up (by omega)) (hy.a0.up (by omega))).al 3
      walk_at "g"
      refine br_dec (fun hx => ?_) (fun hx => ?_)
      · walk_at "g"
        exact ⟨_, rfl, txt_par hA hg (by walk_at "d"), by walk_at "e", RR, EE⟩
      · walk_at "g"
        refine w_use (t_taken (m := 5) RR (by decide) (by decide) (by omega)) ?_
        rintro v hh ⟨i, rfl, hi, RR2, EE2⟩
        walk_at "g"
        refine br_dec (fun h0 => ?_) (fun h0 => ?_)
        · walk_at "g"
          exact ⟨_, rfl, txt_par hA hg (by walk_at "d"), by walk_at "e", RR2, EE.trans EE2⟩
        · walk_at "g"
          exact ⟨_, rfl, txt_gap hA hg (by omega) (by walk_at "d"), by walk_at "e", RR2, EE.trans EE2⟩
    · walk_at "g"
      refine w_use (t_blank R (by omega)) ?_
      rintro v h1 ⟨g, rfl, hg, hgl, R1, E1⟩
      walk_at "g"
      refine w_nilT ?_
      walk_at "g"
      refine w_nilT ?_
      walk_at "g"
      refine w_inT [[69, 85], [65, 85]] rfl ?_
      walk_at "g"
      refine w_use (IA 0 h1 R1) ?_
      rintro v h2 ⟨x, rfl, hx, hxl, R2, E2⟩
      walk_at "g"
      refine w_use (IB 0 h2 R2) ?_
      rintro v h3 ⟨y, rfl, hy, hyl, RR, E3⟩
      have EE := (E1.trans E2).trans E3
      have hA : AL 3 (.op2 [65, 85] a b) (sg ([65] ++ g ++ [40] ++ x ++ g ++ [85] ++ g ++ y ++ [41])) (2 * max (dp a) (dp b) + 1 + 1) := by
        have e : sg ([65] ++ g ++ [40] ++ x ++ g ++ [85] ++ g ++ y ++ [41]) = [65, 40] ++ sg x ++ [85] ++ sg y ++ [41] := by
          simp only [sg_app, hg, List.append_nil]
          rfl
        rw [e]
        exact (a_until (by decide) (hx.a0.up (by omega)) (hy.a0.up (by omega))).al 3
      walk_at "g"
      refine br_dec (fun hx => ?_) (fun hx => ?_)
      · walk_at "g"
        exact ⟨_, rfl, txt_par hA hg (by walk_at "d"), by walk_at "e", RR, EE⟩
      · walk_at "g"
        refine w_use (t_taken (m := 5) RR (by decide) (by decide) (by omega)) ?_
        rintro v hh ⟨i, rfl, hi, RR2, EE2⟩
        walk_at "g"
        refine br_dec (fun h0 => ?_) (fun h0 => ?_)
        · walk_at "g"
          exact ⟨_, rfl, txt_par hA hg (by walk_at "d"), by walk_at "e", RR2, EE.trans EE2⟩
        · walk_at "g"
          exact ⟨_, rfl, txt_gap hA hg (by omega) (by walk_at "d"), by walk_at "e", RR2, EE.trans EE2⟩
    · walk_at "g"
      refine w_use (t_blank R (by omega)) ?_
      rintro v h1 ⟨g, rfl, hg, hgl, R1, E1⟩
      walk_at "g"
      refine w_nilT ?_
      walk_at "g"
      refine w_nilT ?_
      walk_at "g"
      refine w_inT [[69, 85], [65, 85]] rfl ?_
      walk_at "g"
      refine w_use (IA 1 h1 R1) ?_
      rintro v h2 ⟨x, rfl, hx, hxl, R2, E2⟩
      walk_at "g"
      refine w_use (IB (1 + 1) h2 R2) ?_
      rintro v h3 ⟨y, rfl, hy, hyl, RR, E3⟩
      have EE := (E1.trans E2).trans E3
      have hA : AL 1 (.op2 [38] a b) (sg (x ++ g ++ [38] ++ y)) (2 * max (dp a) (dp b) + 1) := by
        have e : sg (x ++ g ++ [38] ++ y) = sg x ++ [38] ++ sg y := by
          simp only [sg_app, hg, List.append_nil]
          rfl
        rw [e]
        exact A1.al (a_and (AL.a1 (hx.up (by omega))) (AL.a2 (hy.up (by omega)))) (by omega)
      walk_at "g"
      refine br_dec (fun hx => ?_) (fun hx => ?_)
      · walk_at "g"
        exact ⟨_, rfl, txt_par hA hg (by walk_at "d"), by walk_at "e", RR, EE⟩
      · walk_at "g"
        refine w_use (t_taken (m := 5) RR (by decide) (by decide) (by omega)) ?_
        rintro v hh ⟨i, rfl, hi, RR2, EE2⟩
        walk_at "g"
        refine br_dec (fun h0 => ?_) (fun h0 => ?_)
        · walk_at "g"
          exact ⟨_, rfl, txt_par hA hg (by walk_at "d"), by walk_at "e", RR2, EE.trans EE2⟩
        · walk_at "g"
          exact ⟨_, rfl, txt_gap hA hg (by omega) (by walk_at "d"), by walk_at "e", RR2, EE.trans EE2⟩
    · walk_at "g"
      refine w_use (t_blank R (by omega)) ?_
      rintro v h1 ⟨g, rfl, hg, hgl, R1, E1⟩
      walk_at "g"
      refine w_nilT ?_
      walk_at "g"
      refine w_nilT ?_
      walk_at "g"
      refine w_inT [[69, 85], [65, 85]] rfl ?_
      walk_at "g"
      refine w_use (IA 0 h1 R1) ?_
      rintro v h2 ⟨x, rfl, hx, hxl, R2, E2⟩
      walk_at "g"
      refine w_use (IB (0 + 1) h2 R2) ?_
      rintro v h3 ⟨y, rfl, hy, hyl, RR, E3⟩
      have EE := (E1.trans E2).trans E3
      have hA : AL 0 (.op2 [124] a b) (sg (x ++ g ++ [124] ++ y)) (2 * max (dp a) (dp b) + 1) := by
        have e : sg (x ++ g ++ [124] ++ y) = sg x ++ [124] ++ sg y := by
          simp only [sg_app, hg, List.append_nil]
          rfl
        rw [e]
        exact A0.al (a_or (AL.a0 (hx.up (by omega))) (AL.a1 (hy.up (by omega)))) (by omega)
      walk_at "g"
      refine br_dec (fun hx => ?_) (fun hx => ?_)
      · walk_at "g"
        exact ⟨_, rfl, txt_par hA hg (by walk_at "d"), by walk_at "e", RR, EE⟩
      · walk_at "g"
        refine w_use (t_taken (m := 5) RR (by decide) (by decide) (by omega)) ?_
        rintro v hh ⟨i, rfl, hi, RR2, EE2⟩
        walk_at "g"
        refine br_dec (fun h0 => ?_) (fun h0 => ?_)
        · walk_at "g"
          exact ⟨_, rfl, txt_par hA hg (by walk_at "d"), by walk_at "e", RR2, EE.trans EE2⟩
        · walk_at "g"
          exact ⟨_, rfl, txt_gap hA hg (by omega) (by walk_at "d"), by walk_at "e", RR2, EE.trans EE2⟩
end
end P35

namespace P35
open PySem Mx Q35
def zAsk : List Nat := [97, 115, 107]
def zBeh : List Nat := [98, 101, 104, 105, 110, 100]
def zStep : List Nat := [115, 116, 101, 112]
def zSign : List Nat := [115, 105, 103, 110]
def zPlace : List Nat := [112, 108, 97, 99, 101]
def zName : List Nat := [110, 97, 109, 101]
def stS : Sta → List Nat
  | .ask _ => zAsk
  | .behind _ _ => zBeh
  | .step _ _ => zStep
  | .sign _ _ => zSign
  | .place _ _ => zPlace
  | .name _ _ => zName
def gS : Gk → D
  | .par _ => .str [41]
  | .u1 _ _ => .str [85]
  | .u2 _ _ _ => .str [41]
def gD (G : List Gk) : List D := (G.map gS).reverse
theorem gD_cons (g : Gk) (G : List Gk) : gD (g :: G) = gD G ++ [gS g] := by simp [gD]
theorem gD_len (G : List Gk) : (gD G).length = G.length := by simp [gD]
theorem gD_dep (G : List Gk) : deps (gD G) = some 0 := by
  have : ∃ zs : List (List Nat), gD G = zs.map D.str := by
    induction G with
    | nil => exact ⟨[], rfl⟩
    | cons g G ih =>
      obtain ⟨zs, e⟩ := ih
      rw [gD_cons, e]
      cases g with
      | par F => exact ⟨zs ++ [[41]], by simp [gS]⟩
      | u1 s F => exact ⟨zs ++ [[85]], by simp [gS]⟩
      | u2 s a F => exact ⟨zs ++ [[41]], by simp [gS]⟩
  obtain ⟨zs, e⟩ := this
  rw [e]
  exact deps_str zs
theorem ati_last {xs : List D} {y : D} : ati (xs ++ [y]) (-1) = some y := by
  unfold ati ixn
  rw [if_neg (by decide), List.length_append, if_pos (by simp only [List.length_cons, List.length_nil]; omega)]
  show (xs ++ [y])[((-1 : Int) + ((xs.length + [y].length : Nat) : Int)).toNat]? = _
  rw [show ((-1 : Int) + ((xs.length + [y].length : Nat) : Int)).toNat = xs.length by simp only [List.length_cons, List.length_nil]; omega]
  simp
theorem cut_last {xs : List D} {y : D} : cutd (xs ++ [y]) none (some (-1)) = xs := by
  unfold cutd six
  simp only [List.drop_zero, List.length_append, List.length_cons, List.length_nil]
  rw [if_pos (by decide), show ((-1 : Int) + ((xs.length + (0 + 1) : Nat) : Int)).toNat - 0 = xs.length by omega]
  simp
def er (p : Int) (m : List Nat) : D := .tup [.int p, .str m]
section
local macro_rules | `(tactic| walk_at "n") => `(tactic| first | assumption | (apply Ne.symm; assumption) | omega | (exact kin_ne (by assumption) (by assumption) (by simp)))
local macro_rules | `(tactic| walk_at "o") => `(tactic| first
  | with_reducible assumption
  | with_reducible exact get_new
  | ((with_reducible apply put_get); walk_at "o")
  | ((with_reducible apply put_ne2); walk_at "n"; walk_at "o")
  | ((with_reducible apply app_get); walk_at "o"))
local macro_rules | `(tactic| walk_at "h") => `(tactic| first
  | with_reducible assumption
  | ((with_reducible apply lst_of); walk_at "o")
  | ((with_reducible apply lst_app); walk_at "h")
  | ((with_reducible apply lst_put2); walk_at "n"; walk_at "h")
  | walk_at "o")
local macro_rules | `(tactic| walk_at "z") => `(tactic| first | assumption | (simp only [List.length_append, List.length_cons, List.length_nil, List.length_map, SZ]; omega) | (simp [SZ] <;> omega))
local macro_rules | `(tactic| walk_at "T") => `(tactic| first | assumption | exact decide_eq_true rfl | exact decide_eq_true (by first | assumption | omega) | exact nd_T (by first | assumption | omega) | decide)
local macro_rules | `(tactic| walk_at "F") => `(tactic| first | assumption | exact nd_F rfl | exact decide_eq_false (by first | assumption | omega) | exact nd_F (by first | assumption | omega) | decide)
local macro_rules | `(tactic| walk_at "r") => `(tactic| first
  | ((with_reducible refine (show gdW _ _ from ?_)); first | refine sc_mk (by walk_at "z") ?_ | refine gd_mk (by walk_at "T") ?_)
  | ((with_reducible refine (show brW _ _ _ from ?_)); first | refine br_T (by walk_at "T") ?_ | refine br_F (by walk_at "F") ?_)
  | ((with_reducible refine (show LkF _ _ _ _ from ?_)); refine LkF.mk (by walk_at "h") (by exact rfl) ?_)
  | ((with_reducible refine (show LkC _ _ _ from ?_)); refine LkC.mk (by walk_at "h") ?_)
  | ((with_reducible refine (show LkL _ _ _ from ?_)); refine LkL.mk (by walk_at "h") ?_)
  | ((with_reducible refine (show LkM _ _ _ from ?_)); refine LkM.mk (by walk_at "h") ?_)
  | ((with_reducible refine (show LkO _ _ from ?_)); refine LkO.mk (tru_L (by walk_at "h")) ?_)
  | ((with_reducible refine (show optW _ _ from ?_)); refine opt_mk (by assumption) ?_)
  | ((with_reducible refine (show Gd _ _ from ?_)); first
    | ((with_reducible refine (show Gd (bmty _ _ _ = true) _ from ?_)); refine Gd.mk (bmty_app (by walk_at "h")) ?_)
    | ((with_reducible refine (show Gd (lstQ _ _ = true) _ from ?_)); refine Gd.mk (lstQ_r (by walk_at "h")) ?_)
    | ((with_reducible refine Gd.mk (small_i ?_ ?_) ?_); omega; omega)
    | ((with_reducible refine Gd.mk (small_2 ?_ ?_ ?_ ?_) ?_); omega; omega; omega; omega)
    | ((with_reducible refine Gd.mk ?_ ?_); (first | assumption | omega | decide)))
  | ((with_reducible refine (show Wp (fauK _ _ _ _ _ _ _) _ _ from ?_)); refine w_fauC (by walk_at "h") rfl (of_decide_eq_true rfl) ?_)
  | ((with_reducible refine (show Wp (fldK _ _ _ _ _ _) _ _ from ?_)); refine w_fldK (by walk_at "h") (of_decide_eq_true rfl) rfl ?_)
  | ((with_reducible refine (show Wp (ixop _ _ _) _ _ from ?_)); refine w_ixL (by walk_at "h") ?_)
  | ((with_reducible refine (show Wp (b1op _ _ _) _ _ from ?_)); refine w_lenL (by walk_at "h") ?_)
  | ((with_reducible refine (show Wp (bmop _ _ _ _) _ _ from ?_)); refine w_app (by walk_at "h") (by walk_at "z") ?_)
  | ((with_reducible refine (show Wp (revop _ _) _ _ from ?_)); refine w_revL (by walk_at "h") ?_)
  | ((with_reducible refine (show Wp (slcop _ _ _ _) _ _ from ?_)); refine w_slcL (by walk_at "h") ?_)
  | ((with_reducible refine (show Wp (setop _ _ _ _) _ _ from ?_)); refine w_setL (by walk_at "h") ?_)
  | with_reducible refine exW_ok _ _ _ ?_
  | with_reducible refine (evW_ok _ _).v ?_
  | with_reducible refine (evW_ok _ _).c ?_)
local macro_rules | `(tactic| walk_at "s") => `(tactic| (walk_at "r"; conv => whnf))
local macro_rules | `(tactic| walk_at "g") => `(tactic| ((conv => whnf); repeat walk_at "s"))
variable {h : AH} {n l : Nat} {Q : D → AH → Prop} {X : Nat → Fs → AH → Prop} {xs : List D} {p : Int} {c : Nat} {own : List Nat}
theorem t_lg40 (hl : lstAt h l = some xs) (hn : 2 ≤ n) : Wp (call prog n 36 [.str [40], .int p, .ref l] h) (fun v h' => v = (if xs.length = 20 then er p mDeep else .str zAsk) ∧ h' = h) nX := by
  obtain ⟨k, rfl⟩ : ∃ k, n = k + 2 := ⟨n - 2, by omega⟩
  refine w_enter (fn := f_L_ground) (b := b_L_ground) (s := [some (.str [40]), some (.int p), some (.ref l)]) rfl ⟨rfl, by decide⟩ rfl rfl ?_
  walk_at "g"
  refine br_dec (fun hx => ?_) (fun hx => ?_)
  · walk_at "g"
    exact ⟨by rw [if_pos (by omega)]; rfl, rfl⟩
  · walk_at "g"
    exact ⟨by rw [if_neg (by omega)]; rfl, rfl⟩
theorem t_lg (hc : own ≠ [40]) (ho : own = [] ∨ ∃ c, own = [c]) (hn : 2 ≤ n) {w : D} (h1 : own = [69] ∨ own = [65] → w = .str zStep) (h2 : own = [126] → w = .str zAsk) (h3 : ∀ c, c ≠ 69 → c ≠ 65 → c ≠ 126 → own = [c] → c ∈ names → w = .str zSign) (h4 : own = [] → w = er p mQ) (h5 : ∀ c, c ≠ 69 → c ≠ 65 → c ≠ 126 → own = [c] → c ∉ names → w = er p mQ) : Wp (call prog n 36 [.str own, .int p, .ref l] h) (fun v h' => v = w ∧ h' = h) nX := by
  obtain ⟨k, rfl⟩ : ∃ k, n = k + 2 := ⟨n - 2, by omega⟩
  refine w_enter (fn := f_L_ground) (b := b_L_ground) (s := [some (.str own), some (.int p), some (.ref l)]) rfl ⟨rfl, by decide⟩ rfl rfl ?_
  rcases ho with rfl | ⟨c, rfl⟩
  · walk_at "g"
    refine w_inT [[69], [65]] rfl ?_
    walk_at "g"
    exact ⟨(h4 rfl).symm, rfl⟩
  · walk_at "g"
    refine w_inT [[69], [65]] rfl ?_
    walk_at "g"
    refine br_dec (fun hx => ?_) (fun hx => ?_)
    · walk_at "g"
      exact ⟨(h1 (by simpa using hx)).symm, rfl⟩
    · have e1 : c ≠ 69 ∧ c ≠ 65 := by simpa using hx
      walk_at "g"
      refine br_dec (fun hx => ?_) (fun hx => ?_)
      · walk_at "g"
        exact ⟨(h2 hx).symm, rfl⟩
      · have e2 : c ≠ 126 := by simpa using hx
        have e3 : [c] ≠ [] := by simp
        walk_at "g"
        refine br_dec (fun hx => ?_) (fun hx => ?_)
        · walk_at "g"
          exact ⟨(h3 c e1.1 e1.2 e2 rfl hx).symm, rfl⟩
        · walk_at "g"
          exact ⟨(h5 c e1.1 e1.2 e2 rfl hx).symm, rfl⟩
/-- behind a question, nothing open -/
theorem t_lb0 (hl : lstAt h l = some []) (hn : 2 ≤ n) (hc : own ∉ [[38], [124]]) : Wp (call prog n 35 [.str own, .int p, .ref l] h) (fun v h' => v = (if own = [] then .str zBeh else er p mEnd) ∧ Gr h h') nX := by
  obtain ⟨k, rfl⟩ : ∃ k, n = k + 2 := ⟨n - 2, by omega⟩
  refine w_enter (fn := f_L_behind) (b := b_L_behind) (s := [some (.str own), some (.int p), some (.ref l)]) rfl ⟨rfl, by decide⟩ rfl rfl ?_
  walk_at "g"
  refine w_inT [[38], [124]] rfl ?_
  walk_at "g"
  refine w_eqL (xs := []) (ys := []) (by walk_at "h") (by walk_at "h") rfl rfl (by decide) ?_
  walk_at "g"
  refine br_dec (fun hx => ?_) (fun hx => ?_)
  · walk_at "g"
    exact ⟨by rw [if_pos hx]; rfl, Gr.app _⟩
  · walk_at "g"
    exact ⟨by rw [if_neg hx]; rfl, Gr.app _⟩
theorem t_lbj (hn : 2 ≤ n) (hc : own ∈ [[38], [124]]) : Wp (call prog n 35 [.str own, .int p, .ref l] h) (fun v h' => v = .str zAsk ∧ h' = h) nX := by
  obtain ⟨k, rfl⟩ : ∃ k, n = k + 2 := ⟨n - 2, by omega⟩
  refine w_enter (fn := f_L_behind) (b := b_L_behind) (s := [some (.str own), some (.int p), some (.ref l)]) rfl ⟨rfl, by decide⟩ rfl rfl ?_
  walk_at "g"
  refine w_inT [[38], [124]] rfl ?_
  walk_at "g"
  exact ⟨rfl, rfl⟩
theorem eqds_app {a : D} : ∀ xs : List D, eqds (xs ++ [a]) [] = false
  | [] => rfl
  | _ :: _ => rfl
theorem t_lbU {xs : List D} (hl : lstAt h l = some (xs ++ [.str [85]])) (hd : deps (xs ++ [.str [85]]) = some 0) (hn : 2 ≤ n) (hc : own ∉ [[38], [124]]) : Wp (call prog n 35 [.str own, .int p, .ref l] h) (fun v h' => v = (if own = [85] then .str zAsk else er p mU) ∧ Gr h h') nX := by
  obtain ⟨k, rfl⟩ : ∃ k, n = k + 2 := ⟨n - 2, by omega⟩
  have := ati_last (xs := xs) (y := .str [85])
  refine w_enter (fn := f_L_behind) (b := b_L_behind) (s := [some (.str own), some (.int p), some (.ref l)]) rfl ⟨rfl, by decide⟩ rfl rfl ?_
  walk_at "g"
  refine w_inT [[38], [124]] rfl ?_
  walk_at "g"
  refine w_eqL (xs := xs ++ [.str [85]]) (ys := []) (by walk_at "h") (by walk_at "h") hd rfl (by decide) ?_
  rw [eqds_app]
  walk_at "g"
  refine br_dec (fun hx => ?_) (fun hx => ?_)
  · walk_at "g"
    exact ⟨by rw [if_pos hx]; rfl, Gr.app _⟩
  · walk_at "g"
    exact ⟨by rw [if_neg hx]; rfl, Gr.app _⟩
theorem t_lbP {xs : List D} (hl : lstAt h l = some (xs ++ [.str [41]])) (hd : deps (xs ++ [.str [41]]) = some 0) (hn : 2 ≤ n) (hc : own ∉ [[38], [124]]) : Wp (call prog n 35 [.str own, .int p, .ref l] h) (fun v h' => v = (if own = [41] then .str zBeh else er p mCl) ∧ Gr h h') nX := by
  obtain ⟨k, rfl⟩ : ∃ k, n = k + 2 := ⟨n - 2, by omega⟩
  have := ati_last (xs := xs) (y := .str [41])
  refine w_enter (fn := f_L_behind) (b := b_L_behind) (s := [some (.str own), some (.int p), some (.ref l)]) rfl ⟨rfl, by decide⟩ rfl rfl ?_
  walk_at "g"
  refine w_inT [[38], [124]] rfl ?_
  walk_at "g"
  refine w_eqL (xs := xs ++ [.str [41]]) (ys := []) (by walk_at "h") (by walk_at "h") hd rfl (by decide) ?_
  rw [eqds_app]
  walk_at "g"
  refine br_dec (fun hx => ?_) (fun hx => ?_)
  · walk_at "g"
    exact ⟨by rw [if_pos hx]; rfl, Gr.app _⟩
  · walk_at "g"
    exact ⟨by rw [if_neg hx]; rfl, Gr.app _⟩
end
end P35

namespace P35
open PySem Mx Q35
def sgB : List Nat := [97, 98, 99, 100, 101, 102, 103, 104, 105, 106, 88, 89, 90, 48, 49, 50, 51, 64, 61, 126, 38, 124, 40, 41, 69, 65, 78, 70, 71, 85]
theorem sgB_iff {c : Nat} : c ∈ sgB ↔ c ∈ sgs := by
  have h1 : ∀ c ∈ sgB, c ∈ sgs := by decide
  have h2 : ∀ c ∈ sgs, c ∈ sgB := by decide
  exact ⟨h1 c, h2 c⟩
theorem tk_get {T : Tk} {i : Nat} {d : D} (hd : (tk T)[i]? = some d) : ∃ c p, T[i]? = some (c, p) ∧ d = .tup [.str [c], .int p] := by
  unfold tk at hd
  rw [List.getElem?_map] at hd
  cases e : T[i]? with
  | none => rw [e] at hd; cases hd
  | some t => rw [e] at hd; cases hd; exact ⟨t.1, t.2, rfl, rfl⟩
theorem u_name {c : Nat} (h : c ∉ names) (h1 : c ≠ 40) (h2 : c ≠ 69) (h3 : c ≠ 65) (h4 : c ≠ 126) {p : Nat} {F : Fr} {G : List Gk} : tStep c p (.ask F) G = .error (p, mQ) := s_q h1 h2 h3 h4 h
theorem ask_st {c p : Nat} {F : Fr} {G : List Gk} : (∃ st, tStep c p (.ask F) G = .ok (st, G) ∧ c ≠ 40 ∧ ((c = 69 ∨ c = 65) ∧ stS st = zStep ∨ c = 126 ∧ stS st = zAsk ∨ c ∈ names ∧ c ≠ 69 ∧ c ≠ 65 ∧ c ≠ 126 ∧ stS st = zSign)) ∨ c = 40 ∨ (tStep c p (.ask F) G = .error (p, mQ) ∧ c ≠ 40 ∧ c ≠ 69 ∧ c ≠ 65 ∧ c ≠ 126 ∧ c ∉ names) := by
  by_cases h1 : c = 40
  · exact .inr (.inl h1)
  · by_cases h2 : c = 69 ∨ c = 65
    · exact .inl ⟨_, s_EA h2, h1, .inl ⟨h2, rfl⟩⟩
    · by_cases h3 : c = 126
      · subst h3; exact .inl ⟨_, s_not, h1, .inr (.inl ⟨rfl, rfl⟩)⟩
      · by_cases h4 : c ∈ names
        · exact .inl ⟨_, s_nm h4, h1, .inr (.inr ⟨h4, by omega, by omega, h3, rfl⟩)⟩
        · exact .inr (.inr ⟨s_q h1 (by omega) (by omega) h3 h4, h1, by omega, by omega, h3, h4⟩)
section
local macro_rules | `(tactic| walk_at "n") => `(tactic| first | assumption | (apply Ne.symm; assumption) | omega | (exact kin_ne (by assumption) (by assumption) (by simp)))
local macro_rules | `(tactic| walk_at "o") => `(tactic| first
  | with_reducible assumption
  | with_reducible exact get_new
  | ((with_reducible apply put_get); walk_at "o")
  | ((with_reducible apply put_ne2); walk_at "n"; walk_at "o")
  | ((with_reducible apply app_get); walk_at "o"))
local macro_rules | `(tactic| walk_at "h") => `(tactic| first
  | with_reducible assumption
  | ((with_reducible apply lst_of); walk_at "o")
  | ((with_reducible apply lst_app); walk_at "h")
  | ((with_reducible apply lst_put2); walk_at "n"; walk_at "h")
  | walk_at "o")
local macro_rules | `(tactic| walk_at "z") => `(tactic| first | assumption | (simp only [List.length_append, List.length_cons, List.length_nil, List.length_map, SZ]; omega) | (simp [SZ] <;> omega))
local macro_rules | `(tactic| walk_at "T") => `(tactic| first | assumption | exact decide_eq_true rfl | exact decide_eq_true (by first | assumption | omega) | exact nd_T (by first | assumption | omega) | decide)
local macro_rules | `(tactic| walk_at "F") => `(tactic| first | assumption | exact nd_F rfl | exact decide_eq_false (by first | assumption | omega) | exact nd_F (by first | assumption | omega) | decide)
local macro_rules | `(tactic| walk_at "r") => `(tactic| first
  | ((with_reducible refine (show gdW _ _ from ?_)); first | refine sc_mk (by walk_at "z") ?_ | refine gd_mk (by walk_at "T") ?_)
  | ((with_reducible refine (show brW _ _ _ from ?_)); first | refine br_T (by walk_at "T") ?_ | refine br_F (by walk_at "F") ?_)
  | ((with_reducible refine (show LkF _ _ _ _ from ?_)); refine LkF.mk (by walk_at "h") (by exact rfl) ?_)
  | ((with_reducible refine (show LkC _ _ _ from ?_)); refine LkC.mk (by walk_at "h") ?_)
  | ((with_reducible refine (show LkL _ _ _ from ?_)); refine LkL.mk (by walk_at "h") ?_)
  | ((with_reducible refine (show LkM _ _ _ from ?_)); refine LkM.mk (by walk_at "h") ?_)
  | ((with_reducible refine (show LkO _ _ from ?_)); refine LkO.mk (tru_L (by walk_at "h")) ?_)
  | ((with_reducible refine (show optW _ _ from ?_)); refine opt_mk (by assumption) ?_)
  | ((with_reducible refine (show Gd _ _ from ?_)); first
    | ((with_reducible refine (show Gd (bmty _ _ _ = true) _ from ?_)); refine Gd.mk (bmty_app (by walk_at "h")) ?_)
    | ((with_reducible refine (show Gd (lstQ _ _ = true) _ from ?_)); refine Gd.mk (lstQ_r (by walk_at "h")) ?_)
    | ((with_reducible refine Gd.mk (small_i ?_ ?_) ?_); omega; omega)
    | ((with_reducible refine Gd.mk (small_2 ?_ ?_ ?_ ?_) ?_); omega; omega; omega; omega)
    | ((with_reducible refine Gd.mk ?_ ?_); (first | assumption | omega | decide)))
  | ((with_reducible refine (show Wp (fauK _ _ _ _ _ _ _) _ _ from ?_)); refine w_fauC (by walk_at "h") rfl (of_decide_eq_true rfl) ?_)
  | ((with_reducible refine (show Wp (fldK _ _ _ _ _ _) _ _ from ?_)); refine w_fldK (by walk_at "h") (of_decide_eq_true rfl) rfl ?_)
  | ((with_reducible refine (show Wp (ixop _ _ _) _ _ from ?_)); refine w_ixL (by walk_at "h") ?_)
  | ((with_reducible refine (show Wp (b1op _ _ _) _ _ from ?_)); refine w_lenL (by walk_at "h") ?_)
  | ((with_reducible refine (show Wp (bmop _ _ _ _) _ _ from ?_)); refine w_app (by walk_at "h") (by walk_at "z") ?_)
  | ((with_reducible refine (show Wp (revop _ _) _ _ from ?_)); refine w_revL (by walk_at "h") ?_)
  | ((with_reducible refine (show Wp (slcop _ _ _ _) _ _ from ?_)); refine w_slcL (by walk_at "h") ?_)
  | ((with_reducible refine (show Wp (setop _ _ _ _) _ _ from ?_)); refine w_setL (by walk_at "h") ?_)
  | with_reducible refine exW_ok _ _ _ ?_
  | with_reducible refine (evW_ok _ _).v ?_
  | with_reducible refine (evW_ok _ _).c ?_)
local macro_rules | `(tactic| walk_at "s") => `(tactic| (walk_at "r"; conv => whnf))
local macro_rules | `(tactic| walk_at "g") => `(tactic| ((conv => whnf); repeat walk_at "s"))
variable {h : AH} {n : Nat} {x : List Nat}
theorem t_lflaw (hx : x.length ≤ 200) (hn : 6 ≤ n) : Wp (call prog n 37 [.str x] h) (fun v h' => v = flD (qRes x) ∧ Gr h h') nX := by
  obtain ⟨k, rfl⟩ : ∃ k, n = k + 2 := ⟨n - 2, by omega⟩
  have hz : x.length ≤ SZ := by unfold SZ; omega
  have e1 : (enumF 0 (chars x)).length ≤ SZ := by rw [enum_len, chars_len]; exact hz
  have e2 := tok_len 0 x
  refine w_enter (fn := f_L_flaw) (b := b_L_flaw) (s := [some (.str x), none, none, none, none, none, none]) rfl ⟨rfl, by decide⟩ rfl rfl ?_
  walk_at "g"
  refine w_map tkF grd_n (fun y hy => ?_) ?_
  · obtain ⟨j, c, rfl⟩ := enum_mem hy
    refine ⟨_, rfl, ?_⟩
    walk_at "g"
    refine ⟨rfl, br_ndec (fun hc => ?_) fun hc => ?_⟩
    · walk_at "g"
      exact ⟨rfl, if_neg (by simpa using hc)⟩
    · exact if_pos (by simpa using hc)
  rw [enum_tok]
  refine sc_mk (by rw [tk_len]; unfold SZ; omega) ?_
  walk_at "g"
  refine w_for (I := fun i s h' => h' = h ++ [.lst (tk (tok 0 x))] ∧ (∃ a b c d e, s = [some (.str x), a, b, some (.ref h.length), c, d, e]) ∧ ∀ (j : Nat) (t : Nat × Nat), j < i → (tok 0 x)[j]? = some t → t.1 ∈ sgs) ⟨rfl, ⟨_, _, _, _, _, rfl⟩, by intro j t hj; omega⟩ (fun i s h' _ k => by rw [k.1]; exact grd_s (lst_of get_new)) (fun i d s h' hd k => ?_) (fun s h' k => ?_)
  · obtain ⟨rfl, ⟨a, b, c, d1, e, rfl⟩, hk⟩ := k
    obtain ⟨cc, p, ht, rfl⟩ := tk_get hd
    refine ⟨_, rfl, ?_⟩
    walk_at "g"
    refine br_ndec (fun hc => ?_) (fun hc => ?_)
    · walk_at "g"
      refine ⟨?_, Gr.app _⟩
      have : qRes x = .error (p, mSign) := by
        unfold qRes
        rw [badT_at hk ht (fun h => hc (sgB_iff.mpr h))]
      rw [this]
      rfl
    · walk_at "g"
      refine ⟨rfl, ⟨_, _, _, _, _, rfl⟩, fun j t2 hj h2 => ?_⟩
      rcases Nat.lt_or_ge j i with h3 | h3
      · exact hk j t2 h3 h2
      · obtain rfl : j = i := by omega
        rw [ht] at h2
        cases h2
        exact sgB_iff.mp hc
  · obtain ⟨rfl, ⟨a, b, c, d, e, rfl⟩, hk⟩ := k
    have eb : badT (tok 0 x) = none := badT_none fun j t h2 => hk j t (by
      have := (List.getElem?_eq_some_iff.mp h2).1
      show j < (tk (tok 0 x)).length
      rw [tk_len]
      exact this) h2
    have eq : qRes x = tRun x.length (.ask F0) [] (tok 0 x) := by unfold qRes; rw [eb]
    clear hk
    have e3 : (tk (tok 0 x)).length ≤ 200 := by rw [tk_len]; omega
    walk_at "g"
    have hI : lstAt (h ++ [O.lst (tk (tok 0 x))] ++ [O.lst []] ++ [O.lst [D.tup [D.str [], D.int x.length]]] ++ [O.lst (tk (tok 0 x) ++ [D.tup [D.str [], D.int x.length]])]) (h ++ [O.lst (tk (tok 0 x))] ++ [O.lst []] ++ [O.lst [D.tup [D.str [], D.int x.length]]]).length = some (tk (tok 0 x) ++ [D.tup [D.str [], D.int x.length]]) := lst_of get_new
    have hG0 : (h ++ [O.lst (tk (tok 0 x))] ++ [O.lst []] ++ [O.lst [D.tup [D.str [], D.int x.length]]] ++ [O.lst (tk (tok 0 x) ++ [D.tup [D.str [], D.int x.length]])])[(h ++ [O.lst (tk (tok 0 x))]).length]? = some (.lst (gD [])) := app_get (app_get get_new)
    have G0 : Gr h (h ++ [O.lst (tk (tok 0 x))] ++ [O.lst []] ++ [O.lst [D.tup [D.str [], D.int x.length]]] ++ [O.lst (tk (tok 0 x) ++ [D.tup [D.str [], D.int x.length]])]) := (((Gr.app _).trans (Gr.app _)).trans (Gr.app _)).trans (Gr.app _)
    generalize (h ++ [O.lst (tk (tok 0 x))] ++ [O.lst []] ++ [O.lst [D.tup [D.str [], D.int x.length]]] ++ [O.lst (tk (tok 0 x) ++ [D.tup [D.str [], D.int x.length]])]) = H at *
    generalize (h ++ [O.lst (tk (tok 0 x))] ++ [O.lst []] ++ [O.lst [D.tup [D.str [], D.int x.length]]]).length = li at *
    generalize (h ++ [O.lst (tk (tok 0 x))]).length = lg0 at *
    generalize x.length = z at *
    generalize hT : tok 0 x = T at *
    have eN : (tk T ++ [D.tup [D.str [], D.int z]]).length = T.length + 1 := by rw [List.length_append, tk_len]; rfl
    refine w_for (I := fun i s h' => Gr H h' ∧ ((i ≤ T.length ∧ ∃ st G lg a b c, s = [some (.str x), a, b, some (.ref h.length), some (.str (stS st)), some (.ref lg), c] ∧ h'[lg]? = some (.lst (gD G)) ∧ G.length ≤ 20 ∧ tRun z (.ask F0) [] T = tRun z st G (T.drop i)) ∨ (i = T.length + 1 ∧ ∃ q, tRun z (.ask F0) [] T = .ok q))) ⟨Gr.refl, .inl ⟨Nat.zero_le _, .ask F0, [], lg0, a, b, e, rfl, hG0, Nat.zero_le _, rfl⟩⟩ (fun i s h' _ q => grd_s (q.1.lst hI)) (fun i d1 s h1 hd q => ?_) (fun s h1 q => ?_)
    · obtain ⟨G1, q⟩ := q
      have hi := (List.getElem?_eq_some_iff.mp hd).1
      rw [eN] at hi
      obtain ⟨hi2, st, G, lg, a, b, c, rfl, hlg, hGl, hR⟩ : i ≤ T.length ∧ ∃ st G lg a b c, s = [some (.str x), a, b, some (.ref h.length), some (.str (stS st)), some (.ref lg), c] ∧ h1[lg]? = some (.lst (gD G)) ∧ G.length ≤ 20 ∧ tRun z (.ask F0) [] T = tRun z st G (T.drop i) := by
        rcases q with q | q
        · exact q
        · omega
      clear q
      have GG := G0.trans G1
      have hla := lst_of hlg
      have fin : ∀ {p : Nat} {m : List Nat} {h2 : AH}, Gr h1 h2 → tRun z (.ask F0) [] T = .error (p, m) → (er p m = flD (qRes x) ∧ Gr h h2) := by
        intro p m h2 g e
        refine ⟨?_, GG.trans g⟩
        rw [eq, e]
        rfl
      have hGs : (gD G).length + 1 ≤ SZ := by rw [gD_len]; unfold SZ; omega
      rcases Nat.lt_or_ge i T.length with hlt | hge
      · -- a token
        have hd2 : (tk T)[i]? = some d1 := by
          rw [List.getElem?_append_left (by rw [tk_len]; exact hlt)] at hd
          exact hd
        obtain ⟨cc, p, ht, rfl⟩ := tk_get hd2
        have hdr := drop_some ht
        have hdr : T.drop i = (cc, p) :: T.drop (i + 1) := hdr
        rw [hdr] at hR
        -- goes on
        have go : ∀ {st' : Sta} {G' : List Gk} {lg' : Nat} {a b c : Option D} {h2 : AH} {s2 : Sl}, Gr h1 h2 → tStep cc p st G = .ok (st', G') → h2[lg']? = some (.lst (gD G')) → G'.length ≤ 20 → s2 = [some (.str x), a, b, some (.ref h.length), some (.str (stS st')), some (.ref lg'), c] → (Gr H h2 ∧ ((i + 1 ≤ T.length ∧ ∃ st G lg a b c, s2 = [some (.str x), a, b, some (.ref h.length), some (.str (stS st)), some (.ref lg), c] ∧ h2[lg]? = some (.lst (gD G)) ∧ G.length ≤ 20 ∧ tRun z (.ask F0) [] T = tRun z st G (T.drop (i + 1))) ∨ (i + 1 = T.length + 1 ∧ ∃ q, tRun z (.ask F0) [] T = .ok q))) := by
          intro st' G' lg' a b c h2 s2 g e1 e2 e3 e4
          exact ⟨G1.trans g, .inl ⟨by omega, st', G', lg', a, b, c, e4, e2, e3, hR.trans (run_ok e1)⟩⟩
        have bad : ∀ {m : List Nat} {h2 : AH}, Gr h1 h2 → tStep cc p st G = .error (p, m) → (er p m = flD (qRes x) ∧ Gr h h2) := fun g e => fin g (hR.trans (run_er e))
        refine ⟨_, rfl, ?_⟩
        cases st with
        | ask F =>
          walk_at "g"
          refine w_inT [zAsk, zBeh] rfl ?_
          walk_at "g"
          rcases ask_st (c := cc) (p := p) (F := F) (G := G) with ⟨st', e1, hc, h3⟩ | rfl | ⟨e1, n40, n69, n65, n126, nn⟩
          · have n40 : [cc] ≠ [40] := by intro e; injection e with e; exact hc e
            have n41 : [cc] ≠ [41] := by
              intro e
              injection e with e
              subst e
              rcases h3 with ⟨h, _⟩ | ⟨h, _⟩ | ⟨h, _⟩
              · omega
              · omega
              · revert h; decide
            refine w_use (t_lg (w := .str (stS st')) n40 (.inr ⟨cc, rfl⟩) (by omega) ?_ ?_ ?_ (by simp) ?_) ?_
            · intro h
              have h : cc = 69 ∨ cc = 65 := by simpa using h
              rcases h3 with ⟨_, e⟩ | ⟨e, _⟩ | ⟨_, _, _, _, _⟩
              · rw [e]
              · omega
              · omega
            · intro h
              have h : cc = 126 := by simpa using h
              rcases h3 with ⟨_, e⟩ | ⟨_, e⟩ | ⟨_, _, _, _, _⟩
              · omega
              · rw [e]
              · omega
            · intro c h1 h2 h4 hc hn
              injection hc with hc
              subst hc
              rcases h3 with ⟨_, e⟩ | ⟨_, e⟩ | ⟨_, _, _, _, e⟩
              · omega
              · omega
              · rw [e]
            · intro c h1 h2 h4 hc hn
              injection hc with hc
              subst hc
              rcases h3 with ⟨_, e⟩ | ⟨_, e⟩ | ⟨e, _⟩
              · omega
              · omega
              · exact absurd e hn
            · rintro v h2 ⟨rfl, rfl⟩
              walk_at "g"
              exact go Gr.refl e1 hlg hGl rfl
          · refine w_use (t_lg40 hla (by omega)) ?_
            rintro v h2 ⟨rfl, rfl⟩
            by_cases h20 : G.length = 20
            · rw [if_pos (by rw [gD_len]; exact h20)]
              unfold er
              walk_at "g"
              exact bad Gr.refl (s_deep h20)
            · rw [if_neg (by rw [gD_len]; exact h20)]
              walk_at "g"
              exact go (lg' := (h2 ++ [O.lst [D.str [41]]]).length) ((Gr.app _).trans (Gr.app _)) (s_open h20) (by rw [gD_cons]; exact get_new) (by simp only [List.length_cons]; omega) rfl
          · have m40 : [cc] ≠ [40] := by intro e; injection e with e; exact n40 e
            refine w_use (t_lg (w := er p mQ) m40 (.inr ⟨cc, rfl⟩) (by omega) ?_ ?_ ?_ (by simp) ?_) ?_
            · intro h
              have h : cc = 69 ∨ cc = 65 := by simpa using h
              omega
            · intro h
              have h : cc = 126 := by simpa using h
              omega
            · intro c h1 h2 h4 hc hn
              injection hc with hc
              subst hc
              exact absurd hn nn
            · intro c h1 h2 h4 hc hn
              rfl
            · rintro v h2 ⟨rfl, rfl⟩
              unfold er
              walk_at "g"
              exact bad Gr.refl e1
        | behind o q =>
          walk_at "g"
          refine w_inT [zAsk, zBeh] rfl ?_
          walk_at "g"
          by_cases hj : cc = 38 ∨ cc = 124
          · have n85 : [cc] ≠ [85] := by intro e; injection e with e; omega
            have n41 : [cc] ≠ [41] := by intro e; injection e with e; omega
            refine w_use (t_lbj (by omega) (by rcases hj with rfl | rfl <;> decide)) ?_
            rintro v h2 ⟨rfl, rfl⟩
            walk_at "g"
            rcases hj with rfl | rfl
            · exact go Gr.refl s_and hlg hGl rfl
            · exact go Gr.refl s_or hlg hGl rfl
          · have h38 : cc ≠ 38 := by omega
            have h124 : cc ≠ 124 := by omega
            have hj : [cc] ∉ [[38], [124]] := by simp; omega
            have nn : [cc] ≠ [] := by simp
            cases G with
            | nil =>
              refine w_use (t_lb0 hla (by omega) hj) ?_
              rintro v h2 ⟨rfl, g2⟩
              rw [if_neg nn]
              unfold er
              walk_at "g"
              exact bad g2 (s_end h38 h124)
            | cons g G =>
              have hdp := gD_dep (g :: G)
              rw [gD_cons] at hlg hla hdp
              cases g with
              | u1 sx F =>
                refine w_use (t_lbU hla hdp (by omega) hj) ?_
                rintro v h2 ⟨rfl, g2⟩
                have hlg2 := g2.get hlg
                by_cases h85 : cc = 85
                · subst h85
                  rw [if_pos rfl]
                  have hcz : (cutd (gD G ++ [gS (.u1 sx F)]) none (some (-1))).length ≤ 20 := by rw [cut_last, gD_len]; simp only [List.length_cons] at hGl; omega
                  walk_at "g"
                  refine go (lg' := (h2 ++ [O.lst (cutd (gD G ++ [gS (.u1 sx F)]) none (some (-1)))] ++ [O.lst [D.str [41]]]).length) (st' := .ask F0) (G' := .u2 sx (orq o q) F :: G) (g2.trans (((Gr.app _).trans (Gr.app _)).trans (Gr.app _))) rfl ?_ hGl rfl
                  rw [gD_cons, cut_last]
                  exact get_new
                · rw [if_neg (by simpa using h85)]
                  unfold er
                  walk_at "g"
                  exact bad g2 (s_UE h38 h124 h85)
              | par F =>
                refine w_use (t_lbP hla hdp (by omega) hj) ?_
                rintro v h2 ⟨rfl, g2⟩
                have hlg2 := g2.get hlg
                by_cases h41 : cc = 41
                · subst h41
                  rw [if_pos rfl]
                  walk_at "g"
                  refine go (lg' := h2.length) (st' := Q35.fin F (orq o q)) (G' := G) (g2.trans (Gr.app _)) rfl ?_ (by simp only [List.length_cons] at hGl; omega) rfl
                  rw [cut_last]
                  exact get_new
                · rw [if_neg (by simpa using h41)]
                  unfold er
                  walk_at "g"
                  exact bad g2 (s_clE h38 h124 h41)
              | u2 sx qa F =>
                refine w_use (t_lbP hla hdp (by omega) hj) ?_
                rintro v h2 ⟨rfl, g2⟩
                have hlg2 := g2.get hlg
                by_cases h41 : cc = 41
                · subst h41
                  rw [if_pos rfl]
                  walk_at "g"
                  refine go (lg' := h2.length) (st' := Q35.fin F (.op2 [sx, 85] qa (orq o q))) (G' := G) (g2.trans (Gr.app _)) rfl ?_ (by simp only [List.length_cons] at hGl; omega) rfl
                  rw [cut_last]
                  exact get_new
                · rw [if_neg (by simpa using h41)]
                  unfold er
                  walk_at "g"
                  exact bad g2 (s_cl2E h38 h124 h41)
        | step sx F =>
          walk_at "g"
          refine br_dec (fun h40 => ?_) (fun h40 => ?_)
          · have h40 : cc = 40 := by simpa using h40
            subst h40
            walk_at "g"
            refine br_dec (fun h20 => ?_) (fun h20 => ?_)
            · walk_at "g"
              exact bad Gr.refl (s_udeep (by rw [gD_len] at h20; omega))
            · walk_at "g"
              rw [gD_len] at h20
              exact go (lg' := (h1 ++ [O.lst [D.str [85]]]).length) ((Gr.app _).trans (Gr.app _)) (s_uopen (by omega)) (by rw [gD_cons]; exact get_new) (by simp only [List.length_cons]; omega) rfl
          · have h40 : cc ≠ 40 := by simpa using h40
            walk_at "g"
            refine w_inT [zAsk, zBeh] rfl ?_
            walk_at "g"
            refine br_ndec (fun hs => ?_) (fun hs => ?_)
            · walk_at "g"
              exact bad Gr.refl (s_stepE h40 hs)
            · walk_at "g"
              exact go Gr.refl (s_step hs) hlg hGl rfl
        | sign nx F =>
          walk_at "g"
          refine w_inT [zAsk, zBeh] rfl ?_
          walk_at "g"
          refine w_ninT [[64], [61]] rfl ?_
          walk_at "g"
          refine br_ndec (fun hs => ?_) (fun hs => ?_)
          · walk_at "g"
            exact bad Gr.refl (s_asE (by simpa using hs))
          · have hs : cc = 64 ∨ cc = 61 := by simpa using hs
            rcases hs with rfl | rfl
            · walk_at "g"
              exact go Gr.refl s_as64 hlg hGl rfl
            · walk_at "g"
              exact go Gr.refl s_as61 hlg hGl rfl
        | place nx F =>
          walk_at "g"
          refine w_inT [zAsk, zBeh] rfl ?_
          walk_at "g"
          refine br_ndec (fun hs => ?_) (fun hs => ?_)
          · walk_at "g"
            exact bad Gr.refl (s_plE hs)
          · walk_at "g"
            exact go Gr.refl (s_pl hs) hlg hGl rfl
        | name nx F =>
          walk_at "g"
          refine w_inT [zAsk, zBeh] rfl ?_
          walk_at "g"
          refine br_ndec (fun hs => ?_) (fun hs => ?_)
          · walk_at "g"
            exact bad Gr.refl (s_naE hs)
          · walk_at "g"
            exact go Gr.refl (s_na hs) hlg hGl rfl
      · -- the end
        obtain rfl : i = T.length := by omega
        have hd2 : d1 = D.tup [D.str [], D.int z] := by
          rw [List.getElem?_append_right (by rw [tk_len]; exact Nat.le_refl _), tk_len, Nat.sub_self] at hd
          cases hd
          rfl
        subst hd2
        rw [List.drop_length] at hR
        have bad : ∀ {m : List Nat} {h2 : AH}, Gr h1 h2 → tEnd z st G = .error (z, m) → (er z m = flD (qRes x) ∧ Gr h h2) := fun g e => fin g (hR.trans e)
        refine ⟨_, rfl, ?_⟩
        cases st with
        | ask F =>
          walk_at "g"
          refine w_inT [zAsk, zBeh] rfl ?_
          walk_at "g"
          refine w_use (t_lg (w := er z mQ) (by decide) (.inl rfl) (by omega) (by simp) (by simp) (by simp) (by simp) (by simp)) ?_
          rintro v h2 ⟨rfl, rfl⟩
          unfold er
          walk_at "g"
          exact bad Gr.refl rfl
        | behind o q =>
          walk_at "g"
          refine w_inT [zAsk, zBeh] rfl ?_
          walk_at "g"
          cases G with
          | nil =>
            refine w_use (t_lb0 hla (by omega) (by decide)) ?_
            rintro v h2 ⟨rfl, g2⟩
            rw [if_pos rfl]
            walk_at "g"
            exact ⟨G1.trans g2, .inr ⟨rfl, _, hR⟩⟩
          | cons g G =>
            have hdp := gD_dep (g :: G)
            rw [gD_cons] at hlg hla hdp
            cases g with
            | u1 sx F =>
              refine w_use (t_lbU hla hdp (by omega) (by decide)) ?_
              rintro v h2 ⟨rfl, g2⟩
              rw [if_neg (by decide)]
              unfold er
              walk_at "g"
              exact bad g2 rfl
            | par F =>
              refine w_use (t_lbP hla hdp (by omega) (by decide)) ?_
              rintro v h2 ⟨rfl, g2⟩
              rw [if_neg (by decide)]
              unfold er
              walk_at "g"
              exact bad g2 rfl
            | u2 sx qa F =>
              refine w_use (t_lbP hla hdp (by omega) (by decide)) ?_
              rintro v h2 ⟨rfl, g2⟩
              rw [if_neg (by decide)]
              unfold er
              walk_at "g"
              exact bad g2 rfl
        | step sx F =>
          walk_at "g"
          refine w_inT [zAsk, zBeh] rfl ?_
          walk_at "g"
          exact bad Gr.refl rfl
        | sign nx F =>
          walk_at "g"
          refine w_inT [zAsk, zBeh] rfl ?_
          walk_at "g"
          refine w_ninT [[64], [61]] rfl ?_
          walk_at "g"
          exact bad Gr.refl rfl
        | place nx F =>
          walk_at "g"
          refine w_inT [zAsk, zBeh] rfl ?_
          walk_at "g"
          exact bad Gr.refl rfl
        | name nx F =>
          walk_at "g"
          refine w_inT [zAsk, zBeh] rfl ?_
          walk_at "g"
          exact bad Gr.refl rfl
    · obtain ⟨G1, q⟩ := q
      have hi : T.length + 1 ≤ T.length ∨ _ := Or.imp (fun q => by rw [← eN]; exact q.1) (fun q => q.2) q
      rcases hi with hi | ⟨q, hq⟩
      · omega
      · walk_at "g"
        refine ⟨?_, G0.trans G1⟩
        rw [eq, hq]
        rfl
end
end P35

namespace P35
open PySem Mx Q35
theorem cutd_len {α : Type} (x : List α) (a b : Option Int) : (cutd x a b).length ≤ x.length := by
  unfold cutd
  rw [List.length_take, List.length_drop]
  omega
theorem rep_len {α : Type} (x : List α) : ∀ n : Nat, (rep x n).length = n * x.length
  | 0 => by simp [rep]
  | n + 1 => by
    show (x ++ rep x n).length = _
    rw [List.length_append, rep_len x n, Nat.succ_mul]
    omega
theorem cut_200 (x : List Nat) : (cutd x none (some 200)).length ≤ 200 := by
  unfold cutd six
  simp only [List.drop_zero, List.length_take]
  rw [if_neg (by decide)]
  have : (200 : Int).toNat = 200 := rfl
  omega
def PCS : List (List Nat) := [[97, 64, 48], [98, 61, 88], [126], [40], [41], [38], [124], [32], [69, 78], [65, 40], [69, 40, 98, 64, 50, 85], [65, 71], [89, 61, 99, 41], [85], [69, 70, 40], [65], [85, 126]]
def PC2 : List (List Nat) := [[], [64], [63], [52], [40], [107], [69], [97], [78], [85], [41]]
/-- what is no text of a question -/
def BadV (v : D) : Prop := v = .non ∨ (∃ i, v = .int i) ∨ (∃ xs, v = .tup xs) ∨ ∃ x, v = .str x ∧ 200 < x.length ∧ x.length ≤ SZ
section
local macro_rules | `(tactic| walk_at "n") => `(tactic| first | assumption | (apply Ne.symm; assumption) | omega | (exact kin_ne (by assumption) (by assumption) (by simp)))
local macro_rules | `(tactic| walk_at "o") => `(tactic| first
  | with_reducible assumption
  | with_reducible exact get_new
  | ((with_reducible apply put_get); walk_at "o")
  | ((with_reducible apply put_ne2); walk_at "n"; walk_at "o")
  | ((with_reducible apply app_get); walk_at "o"))
local macro_rules | `(tactic| walk_at "h") => `(tactic| first
  | with_reducible assumption
  | ((with_reducible apply lst_of); walk_at "o")
  | ((with_reducible apply lst_app); walk_at "h")
  | ((with_reducible apply lst_put2); walk_at "n"; walk_at "h")
  | walk_at "o")
local macro_rules | `(tactic| walk_at "z") => `(tactic| first | assumption | (simp only [List.length_append, List.length_cons, List.length_nil, List.length_map, SZ]; omega) | (simp [SZ] <;> omega))
local macro_rules | `(tactic| walk_at "T") => `(tactic| first | assumption | exact decide_eq_true rfl | exact decide_eq_true (by first | assumption | omega) | exact nd_T (by first | assumption | omega) | decide)
local macro_rules | `(tactic| walk_at "F") => `(tactic| first | assumption | exact nd_F rfl | exact decide_eq_false (by first | assumption | omega) | exact nd_F (by first | assumption | omega) | decide)
local macro_rules | `(tactic| walk_at "r") => `(tactic| first
  | ((with_reducible refine (show gdW _ _ from ?_)); first | refine sc_mk (by walk_at "z") ?_ | refine gd_mk (by walk_at "T") ?_)
  | ((with_reducible refine (show brW _ _ _ from ?_)); first | refine br_T (by walk_at "T") ?_ | refine br_F (by walk_at "F") ?_)
  | ((with_reducible refine (show LkF _ _ _ _ from ?_)); refine LkF.mk (by walk_at "h") (by exact rfl) ?_)
  | ((with_reducible refine (show LkC _ _ _ from ?_)); refine LkC.mk (by walk_at "h") ?_)
  | ((with_reducible refine (show LkL _ _ _ from ?_)); refine LkL.mk (by walk_at "h") ?_)
  | ((with_reducible refine (show LkM _ _ _ from ?_)); refine LkM.mk (by walk_at "h") ?_)
  | ((with_reducible refine (show LkO _ _ from ?_)); refine LkO.mk (tru_L (by walk_at "h")) ?_)
  | ((with_reducible refine (show optW _ _ from ?_)); refine opt_mk (by assumption) ?_)
  | ((with_reducible refine (show Gd _ _ from ?_)); first
    | ((with_reducible refine (show Gd (bmty _ _ _ = true) _ from ?_)); refine Gd.mk (bmty_app (by walk_at "h")) ?_)
    | ((with_reducible refine (show Gd (lstQ _ _ = true) _ from ?_)); refine Gd.mk (lstQ_r (by walk_at "h")) ?_)
    | ((with_reducible refine Gd.mk (small_i ?_ ?_) ?_); omega; omega)
    | ((with_reducible refine Gd.mk (small_2 ?_ ?_ ?_ ?_) ?_); omega; omega; omega; omega)
    | ((with_reducible refine Gd.mk ?_ ?_); (first | assumption | omega | decide | (refine ⟨by omega, by omega, by decide⟩))))
  | ((with_reducible refine (show Wp (fauK _ _ _ _ _ _ _) _ _ from ?_)); refine w_fauC (by walk_at "h") rfl (of_decide_eq_true rfl) ?_)
  | ((with_reducible refine (show Wp (fldK _ _ _ _ _ _) _ _ from ?_)); refine w_fldK (by walk_at "h") (of_decide_eq_true rfl) rfl ?_)
  | ((with_reducible refine (show Wp (ixop _ _ _) _ _ from ?_)); refine w_ixL (by walk_at "h") ?_)
  | ((with_reducible refine (show Wp (b1op _ _ _) _ _ from ?_)); refine w_lenL (by walk_at "h") ?_)
  | ((with_reducible refine (show Wp (bmop _ _ _ _) _ _ from ?_)); refine w_app (by walk_at "h") (by walk_at "z") ?_)
  | ((with_reducible refine (show Wp (revop _ _) _ _ from ?_)); refine w_revL (by walk_at "h") ?_)
  | ((with_reducible refine (show Wp (slcop _ _ _ _) _ _ from ?_)); refine w_slcL (by walk_at "h") ?_)
  | ((with_reducible refine (show Wp (setop _ _ _ _) _ _ from ?_)); refine w_setL (by walk_at "h") ?_)
  | with_reducible refine exW_ok _ _ _ ?_
  | with_reducible refine (evW_ok _ _).v ?_
  | with_reducible refine (evW_ok _ _).c ?_)
local macro_rules | `(tactic| walk_at "s") => `(tactic| (walk_at "r"; conv => whnf))
local macro_rules | `(tactic| walk_at "g") => `(tactic| ((conv => whnf); repeat walk_at "s"))
variable {ns : List Int} {h : AH} {lr n l : Nat} {Q : D → AH → Prop} {X : Nat → Fs → AH → Prop}
theorem t_near (R : Row ns h lr) (hn : 6 ≤ n) : Wp (call prog n 38 [.ref lr] h) (fun v h' => ∃ x, v = .str x ∧ x.length ≤ 200 ∧ Row ns h' lr ∧ Ext lr h h') nX := by
  obtain ⟨k, rfl⟩ : ∃ k, n = k + 2 := ⟨n - 2, by omega⟩
  have hlr := R.lt
  refine w_enter (fn := f_L_near) (b := b_L_near) (s := [some (.ref lr), none, none, none, none, none]) rfl ⟨rfl, by decide⟩ rfl rfl ?_
  walk_at "g"
  refine w_use (t_taken (m := 9) (R.gr (Gr.app _)) (by decide) (by decide) (by omega)) ?_
  rintro v h1 ⟨i, rfl, hi, R1, E1⟩
  have EE := Gr.xt (Gr.app _) E1
  have hl1 : h1[h.length]? = some (.lst (PCS.map .str)) := E1.get (by omega) get_new
  have hrl : (rngF 0 (i : Int).toNat).length ≤ SZ := by rw [rngF_len]; unfold SZ; omega
  walk_at "g"
  refine w_for (I := fun j s h' => ∃ x a b c, s = [some (.ref lr), some (.ref h.length), some (.str x), a, b, c] ∧ x.length ≤ 6 * j ∧ Row ns h' lr ∧ Ext lr h h' ∧ h'[h.length]? = some (.lst (PCS.map .str))) ⟨_, _, _, _, rfl, Nat.le_refl _, R1, EE, hl1⟩ (fun _ _ _ _ _ => grd_n) (fun j y s h2 hy q => ?_) (fun s h2 q => ?_)
  · obtain ⟨x, a, b, c, rfl, hx, R2, E2, hl2⟩ := q
    have hj := (List.getElem?_eq_some_iff.mp hy).1
    have hj : j < i := by rw [show (rngF 0 (i : Int).toNat, (none : Option (Nat × List D))).1 = rngF 0 (i : Int).toNat from rfl, rngF_len] at hj; omega
    refine ⟨_, rfl, ?_⟩
    walk_at "g"
    refine w_use (t_pickS R2 PCS (lst_of hl2) (by omega) (by decide) (by decide) (by omega)) ?_
    rintro v h3 ⟨p, hp, rfl, R3, E3⟩
    have hpl : p.length ≤ 6 := by
      have : ∀ p ∈ PCS, p.length ≤ 6 := by decide
      exact this p hp
    walk_at "g"
    exact ⟨_, _, _, _, rfl, by rw [List.length_append]; omega, R3, E2.trans E3, E3.get (by omega) hl2⟩
  · obtain ⟨x, a, b, c, rfl, hx, R2, E2, hl2⟩ := q
    rw [show (rngF 0 (i : Int).toNat, (none : Option (Nat × List D))).1 = rngF 0 (i : Int).toNat from rfl, rngF_len] at hx
    have hx : x.length ≤ 60 := by omega
    clear hl2
    walk_at "g"
    refine w_use (t_taken (m := 3) R2 (by decide) (by decide) (by omega)) ?_
    rintro v h3 ⟨i3, rfl, hi3, R3, E3⟩
    have E03 := E2.trans E3
    -- the second part
    have part2 : ∀ (x : List Nat) (a b c : Option D) (h4 : AH), x.length ≤ 200 → Row ns h4 lr → Ext lr h h4 → exW (Fk k) xf b_L_near_7 [some (.ref lr), some (.ref h.length), some (.str x), a, b, c] h4 (endK fun v h' => ∃ x, v = .str x ∧ x.length ≤ 200 ∧ Row ns h' lr ∧ Ext lr h h') nX := by
      intro x a b c h4 hx R4 E4
      have hlr4 := R4.lt
      walk_at "g"
      refine w_use (t_taken (m := 6) R4 (by decide) (by decide) (by omega)) ?_
      rintro v h5 ⟨i5, rfl, hi5, R5, E5⟩
      have E05 := E4.trans E5
      have hlr5 := R5.lt
      walk_at "g"
      refine br_dec (fun h0 => ?_) (fun h0 => ?_)
      · walk_at "g"
        refine w_use (t_taken (m := 5) R5 (by decide) (by decide) (by omega)) ?_
        rintro v h6 ⟨i6, rfl, hi6, R6, E6⟩
        have E06 := E05.trans E6
        have hlr6 := R6.lt
        walk_at "g"
        refine w_use (t_pickS (R6.gr (Gr.app _)) [[40], [69, 40]] (lst_of get_new) (by omega) (by decide) (by decide) (by omega)) ?_
        rintro v h7 ⟨p, hp, rfl, R7, E7⟩
        have E07 := E06.trans (Gr.xt (Gr.app _) E7)
        have hpl : p.length ≤ 2 := by
          have : ∀ p ∈ ([[40], [69, 40]] : List (List Nat)), p.length ≤ 2 := by decide
          exact this p hp
        have hr1 : (rep [40] (18 + (i6 : Int) - 1).toNat).length ≤ 30 := by rw [rep_len]; simp only [List.length_cons, List.length_nil]; omega
        walk_at "g"
        refine w_use (t_taken (m := 2) R7 (by decide) (by decide) (by omega)) ?_
        rintro v h8 ⟨i8, rfl, hi8, R8, E8⟩
        have E08 := E07.trans E8
        have hr2 : (rep [41] (18 + (i6 : Int) - i8).toNat).length ≤ 30 := by rw [rep_len]; simp only [List.length_cons, List.length_nil]; omega
        walk_at "g"
        exact ⟨_, rfl, cut_200 _, R8, E08⟩
      · walk_at "g"
        exact ⟨_, rfl, cut_200 _, R5, E05⟩
    walk_at "g"
    refine br_dec (fun h0 => ?_) (fun h0 => ?_)
    · walk_at "g"
      refine w_use (t_taken (m := x.length + 1) R3 (by omega) (by omega) (by omega)) ?_
      rintro v h4 ⟨at', rfl, hat, R4, E4⟩
      have E04 := E03.trans E4
      have hlr4 := R4.lt
      walk_at "g"
      refine w_use (t_pickS (R4.gr (Gr.app _)) PC2 (lst_of get_new) (by omega) (by decide) (by decide) (by omega)) ?_
      rintro v h5 ⟨p, hp, rfl, R5, E5⟩
      have E05 := E04.trans (Gr.xt (Gr.app _) E5)
      have hpl : p.length ≤ 1 := by
        have : ∀ p ∈ PC2, p.length ≤ 1 := by decide
        exact this p hp
      have hc1 := cutd_len x none (some (at' : Int))
      walk_at "g"
      refine w_use (t_taken (m := 2) R5 (by decide) (by decide) (by omega)) ?_
      rintro v h6 ⟨i6, rfl, hi6, R6, E6⟩
      have E06 := E05.trans E6
      have hc2 := cutd_len x (some ((at' : Int) + i6)) none
      walk_at "g"
      refine part2 _ _ _ _ _ ?_ R6 E06
      simp only [List.length_append]
      omega
    · walk_at "g"
      exact part2 _ _ _ _ _ (by omega) R3 E03
theorem t_needB (hn : 4 ≤ n) {v : D} (hv : BadV v) (q : X 0 [(21, .str tx)] h) : Wp (call prog n 13 [v] h) Q X := by
  rcases hv with h1 | h1 | h1 | ⟨x, rfl, h1, h2⟩
  · exact t_needN hn (.inl h1) q
  · exact t_needN hn (.inr (.inl h1)) q
  · exact t_needN hn (.inr (.inr h1)) q
  · exact t_needX hn h1 h2 q
theorem t_flawB (hn : 6 ≤ n) {v : D} (hv : BadV v) (q : X 0 [(21, .str tx)] h) : Wp (call prog n 24 [v] h) Q X := by
  obtain ⟨k, rfl⟩ : ∃ k, n = k + 2 := ⟨n - 2, by omega⟩
  refine w_enter (fn := f_question_flaw) (b := b_question_flaw) (s := [some (v), none]) rfl ⟨rfl, by decide⟩ rfl rfl ?_
  walk_at "g"
  exact t_needB (by omega) hv q
theorem t_plainB (hn : 6 ≤ n) {v : D} (hv : BadV v) (q : X 0 [(21, .str tx)] h) : Wp (call prog n 26 [v] h) Q X := by
  obtain ⟨k, rfl⟩ : ∃ k, n = k + 2 := ⟨n - 2, by omega⟩
  refine w_enter (fn := f_plain_question) (b := b_plain_question) (s := [some (v)]) rfl ⟨rfl, by decide⟩ rfl rfl ?_
  walk_at "g"
  exact t_needB (by omega) hv q
end
end P35

namespace P35
open PySem Mx Q35
def FACTS : List (List Nat) := [[97, 64, 48], [98, 64, 51], [99, 61, 88], [106, 61, 106], [90, 64, 50]]
theorem facts_ok : FOK FACTS := by
  have h : ∀ s ∈ FACTS, (∃ n ∈ names, ∃ c ∈ digits, s = [n, 64, c]) ∨ (∃ n ∈ names, ∃ c ∈ names, s = [n, 61, c]) := by decide
  intro s hs
  rcases h s hs with ⟨n, hn, c, hc, e⟩ | ⟨n, hn, c, hc, e⟩
  · exact .inl ⟨n, c, e, hn, hc⟩
  · exact .inr ⟨n, c, e, hn, hc⟩
theorem w_ends {F : Cf} {xf : Nat → Option (List Nat)} {b : S} {s : Sl} {h : AH} {Q : D → AH → Prop} {X : Nat → Fs → AH → Prop} (e : exW F xf b s h (endK Q) X) : Wp (ends (ex F xf b s h)) Q X := by
  have e := exW_ok _ _ _ e
  cases e1 : ex F xf b s h with
  | ok f h1 =>
    rw [e1] at e
    have := e.h
    cases f with
    | nx s => exact ⟨this⟩
    | rt d => exact ⟨this⟩
    | bk s => exact this.elim
    | ct s => exact this.elim
  | ex c fs h1 => rw [e1] at e; exact ⟨e.h⟩
  | no => rw [e1] at e; exact e.h.elim
theorem told1 : plD (qRes [32, 69, 32, 40, 40, 40, 97, 64, 48, 41, 124, 98, 64, 49, 41, 32, 85, 32, 40, 65, 32, 71, 32, 126, 40, 126, 88, 61, 97, 41, 41, 41]) = .str [69, 40, 97, 64, 48, 124, 98, 64, 49, 85, 65, 71, 126, 126, 88, 61, 97, 41] := by rfl
theorem told2 : flD (qRes [69, 40, 97, 64, 48, 41]) = .tup [.int 5, .str [101, 120, 112, 101, 99, 116, 101, 100, 32, 85]] := by rfl
theorem told3 : flD (qRes [65, 88, 64, 48]) = .tup [.int 1, .str [101, 120, 112, 101, 99, 116, 101, 100, 32, 78, 44, 32, 70, 44, 32, 71, 32, 111, 114, 32, 40]] := by rfl
theorem told4 : flD (qRes [69, 40, 97, 64, 48, 85, 98, 64, 49]) = .tup [.int 9, .str [101, 120, 112, 101, 99, 116, 101, 100, 32, 41]] := by rfl
section
local macro_rules | `(tactic| walk_at "n") => `(tactic| first | assumption | (apply Ne.symm; assumption) | omega | (exact kin_ne (by assumption) (by assumption) (by simp)))
local macro_rules | `(tactic| walk_at "o") => `(tactic| first
  | with_reducible assumption
  | with_reducible exact get_new
  | ((with_reducible apply put_get); walk_at "o")
  | ((with_reducible apply put_ne2); walk_at "n"; walk_at "o")
  | ((with_reducible apply app_get); walk_at "o"))
local macro_rules | `(tactic| walk_at "h") => `(tactic| first
  | with_reducible assumption
  | ((with_reducible apply lst_of); walk_at "o")
  | ((with_reducible apply lst_app); walk_at "h")
  | ((with_reducible apply lst_put2); walk_at "n"; walk_at "h")
  | walk_at "o")
local macro_rules | `(tactic| walk_at "z") => `(tactic| first | assumption | (simp only [List.length_append, List.length_cons, List.length_nil, List.length_map, SZ]; omega) | (simp [SZ] <;> omega))
local macro_rules | `(tactic| walk_at "T") => `(tactic| first | assumption | exact decide_eq_true rfl | exact decide_eq_true (by first | assumption | omega) | exact nd_T (by first | assumption | omega) | decide)
local macro_rules | `(tactic| walk_at "F") => `(tactic| first | assumption | exact nd_F rfl | exact decide_eq_false (by first | assumption | omega) | exact nd_F (by first | assumption | omega) | decide)
local macro_rules | `(tactic| walk_at "r") => `(tactic| first
  | ((with_reducible refine (show gdW _ _ from ?_)); first | refine sc_mk (by walk_at "z") ?_ | refine gd_mk (by walk_at "T") ?_)
  | ((with_reducible refine (show brW _ _ _ from ?_)); first | refine br_T (by walk_at "T") ?_ | refine br_F (by walk_at "F") ?_)
  | ((with_reducible refine (show LkF _ _ _ _ from ?_)); refine LkF.mk (by walk_at "h") (by exact rfl) ?_)
  | ((with_reducible refine (show LkC _ _ _ from ?_)); refine LkC.mk (by walk_at "h") ?_)
  | ((with_reducible refine (show LkL _ _ _ from ?_)); refine LkL.mk (by walk_at "h") ?_)
  | ((with_reducible refine (show LkM _ _ _ from ?_)); refine LkM.mk (by walk_at "h") ?_)
  | ((with_reducible refine (show LkO _ _ from ?_)); refine LkO.mk (tru_L (by walk_at "h")) ?_)
  | ((with_reducible refine (show optW _ _ from ?_)); refine opt_mk (by assumption) ?_)
  | ((with_reducible refine (show Gd _ _ from ?_)); first
    | ((with_reducible refine (show Gd (bmty _ _ _ = true) _ from ?_)); refine Gd.mk (bmty_app (by walk_at "h")) ?_)
    | ((with_reducible refine (show Gd (lstQ _ _ = true) _ from ?_)); refine Gd.mk (lstQ_r (by walk_at "h")) ?_)
    | ((with_reducible refine Gd.mk (small_i ?_ ?_) ?_); omega; omega)
    | ((with_reducible refine Gd.mk (small_2 ?_ ?_ ?_ ?_) ?_); omega; omega; omega; omega)
    | ((with_reducible refine Gd.mk ?_ ?_); (first | assumption | omega | decide | (refine ⟨by omega, by omega, by decide⟩))))
  | ((with_reducible refine (show Wp (fauK _ _ _ _ _ _ _) _ _ from ?_)); refine w_fauC (by walk_at "h") rfl (of_decide_eq_true rfl) ?_)
  | ((with_reducible refine (show Wp (fldK _ _ _ _ _ _) _ _ from ?_)); refine w_fldK (by walk_at "h") (of_decide_eq_true rfl) rfl ?_)
  | ((with_reducible refine (show Wp (ixop _ _ _) _ _ from ?_)); refine w_ixL (by walk_at "h") ?_)
  | ((with_reducible refine (show Wp (b1op _ _ _) _ _ from ?_)); refine w_lenL (by walk_at "h") ?_)
  | ((with_reducible refine (show Wp (bmop _ _ _ _) _ _ from ?_)); refine w_app (by walk_at "h") (by walk_at "z") ?_)
  | ((with_reducible refine (show Wp (revop _ _) _ _ from ?_)); refine w_revL (by walk_at "h") ?_)
  | ((with_reducible refine (show Wp (slcop _ _ _ _) _ _ from ?_)); refine w_slcL (by walk_at "h") ?_)
  | ((with_reducible refine (show Wp (setop _ _ _ _) _ _ from ?_)); refine w_setL (by walk_at "h") ?_)
  | with_reducible refine exW_ok _ _ _ ?_
  | with_reducible refine (evW_ok _ _).v ?_
  | with_reducible refine (evW_ok _ _).c ?_)
local macro_rules | `(tactic| walk_at "s") => `(tactic| (walk_at "r"; conv => whnf))
local macro_rules | `(tactic| walk_at "g") => `(tactic| ((conv => whnf); repeat walk_at "s"))
theorem flD_sim (r : Except Flw QT) : Sim 1 (flD r) := by
  cases r with
  | ok q => exact trivial
  | error f => exact ⟨by intro x hx; simp at hx; rcases hx with rfl | rfl <;> exact trivial, by simp⟩
theorem t_law (ns : List Int) (o : O) (ho : o = .lst (ns.map .int) ∨ o = .frz (ns.map .int)) : Wp (ends (ex (Fk 225) xf b_law [some (.ref 0), none, none, none, none, none, none, none, none] [o])) (fun v _ => v = .bl true) nX := by
  refine w_ends ?_
  have h0 : lstAt [o] 0 = some (ns.map .int) := by rcases ho with rfl | rfl <;> rfl
  walk_at "g"
  refine w_for (I := fun i s h' => (∃ a b c d e f g, s = [some (.ref 0), some (.ref 1), a, b, c, d, e, f, g]) ∧ Row ns h' 1) ⟨⟨_, _, _, _, _, _, _, rfl⟩, by decide, lst_app h0, 0, 138151, 0, by decide, rfl⟩ (fun _ _ _ _ _ => grd_n) (fun i y s h1 hy q => ?_) (fun s h1 q => ?_)
  · obtain ⟨⟨a, b, c, d, e, f, g, rfl⟩, R⟩ := q
    have hlr := R.lt
    refine ⟨_, rfl, ?_⟩
    walk_at "g"
    refine w_use (t_taken (m := 5) (R.gr (Gr.app _)) (by decide) (by decide) (by omega)) ?_
    rintro v h2 ⟨j, rfl, hj, R2, E2⟩
    have hl2 : h2[h1.length]? = some (.lst (FACTS.map .str)) := E2.get (by omega) get_new
    walk_at "g"
    rw [show (1 : Int) + (j : Int) = ((1 + j : Nat) : Int) by omega]
    refine w_use (t_ask (zs := FACTS) (by decide) (by decide) (1 + j) _ h2 R2 (lst_of hl2) (by omega) (by omega)) ?_
    rintro v h3 ⟨q, rfl, htv, hdp, R3, E3⟩
    have hsz : sz q ≤ 63 := by
      have h1 := sz_dp q
      rw [szz_sz] at h1
      have h2 : 2 ^ (dp q + 1) ≤ 2 ^ 6 := Nat.pow_le_pow_right (by decide) (by omega)
      omega
    walk_at "g"
    refine w_use (t_blank R3 (by omega)) ?_
    rintro v h4 ⟨xb, rfl, hxb, hxl, R4, E4⟩
    walk_at "g"
    refine w_use (t_text facts_ok q _ 0 h4 htv hsz (by omega) R4) ?_
    rintro v h5 ⟨xt, rfl, hA, hxtl, R5, E5⟩
    have hle : (xb ++ xt).length ≤ SZ := by rw [List.length_append]; unfold SZ; omega
    have hq : qRes (xb ++ xt) = .ok q := by
      refine whole_ok (N := 2 * dp q + 1) (by omega) ?_
      rw [sg_app, hxb]
      exact hA
    walk_at "g"
    refine w_use (t_asked facts_ok q _ 0 h5 htv (by omega) (by omega)) ?_
    rintro v h6 ⟨rfl, rfl⟩
    walk_at "g"
    refine br_dec (fun hlen => ?_) (fun hlen => ?_)
    · have hlen : (xb ++ xt).length ≤ 200 := by omega
      walk_at "g"
      refine w_use (t_flaw (by omega) hlen) ?_
      rintro v h7 ⟨rfl, G7⟩
      rw [hq, show flD (.ok q) = .non from rfl]
      walk_at "g"
      refine w_use (t_plain (by omega) hlen) ?_
      rintro v h8 ⟨rfl, G8⟩
      rw [hq, show plD (.ok q) = .str (wq q 0) from rfl]
      walk_at "g"
      refine w_use (t_alike 0 _ _ h8 trivial (by omega)) ?_
      rintro v h9 ⟨rfl, G9⟩
      walk_at "g"
      exact ⟨⟨_, _, _, _, _, _, _, rfl⟩, ((R5.gr G7).gr G8).gr G9⟩
    · walk_at "g"
      exact ⟨⟨_, _, _, _, _, _, _, rfl⟩, R5⟩
  · obtain ⟨⟨a, b, c, d, e, f, g, rfl⟩, R⟩ := q
    walk_at "g"
    refine w_for (I := fun i s h' => (∃ a b c d e f g, s = [some (.ref 0), some (.ref 1), a, b, c, d, e, f, g]) ∧ Row ns h' 1) ⟨⟨_, _, _, _, _, _, _, rfl⟩, R⟩ (fun _ _ _ _ _ => grd_n) (fun i y s h1 hy q => ?_) (fun s h1 q => ?_)
    · obtain ⟨⟨a, b, c, d, e, f, g, rfl⟩, R⟩ := q
      refine ⟨_, rfl, ?_⟩
      walk_at "g"
      refine w_use (t_near R (by omega)) ?_
      rintro v h2 ⟨x, rfl, hx, R2, E2⟩
      walk_at "g"
      refine w_use (t_lflaw hx (by omega)) ?_
      rintro v h3 ⟨rfl, G3⟩
      walk_at "g"
      refine w_use (t_flaw (by omega) hx) ?_
      rintro v h4 ⟨rfl, G4⟩
      walk_at "g"
      refine w_use (t_alike 1 _ _ h4 (flD_sim _) (by omega)) ?_
      rintro v h5 ⟨rfl, G5⟩
      walk_at "g"
      refine w_use (t_plain (by omega) hx) ?_
      rintro v h6 ⟨rfl, G6⟩
      have RR := ((((R2.gr G3).gr G4).gr G5).gr G6)
      cases e : qRes x with
      | ok q =>
        rw [show plD (.ok q) = .str (wq q 0) from rfl, show flD (.ok q) = .non from rfl]
        walk_at "g"
        exact ⟨⟨_, _, _, _, _, _, _, rfl⟩, RR⟩
      | error f =>
        rw [show plD (.error f) = .non from rfl, show flD (.error f) = .tup [.int f.1, .str f.2] from rfl]
        walk_at "g"
        exact ⟨⟨_, _, _, _, _, _, _, rfl⟩, RR⟩
    · obtain ⟨⟨a, b, c, d, e, f, g, rfl⟩, R⟩ := q
      walk_at "g"
      refine w_use (t_plain (by omega) (by decide)) ?_
      rintro v h2 ⟨rfl, G2⟩
      rw [told1]
      walk_at "g"
      refine w_use (t_flaw (by omega) (by decide)) ?_
      rintro v h3 ⟨rfl, G3⟩
      rw [told2]
      walk_at "g"
      refine w_use (t_flaw (by omega) (by decide)) ?_
      rintro v h4 ⟨rfl, G4⟩
      rw [told3]
      walk_at "g"
      refine w_use (t_flaw (by omega) (by decide)) ?_
      rintro v h5 ⟨rfl, G5⟩
      rw [told4]
      have R5 := (((R.gr G2).gr G3).gr G4).gr G5
      have hlr := R5.lt
      walk_at "g"
      refine w_use (t_pickL (R5.gr (Gr.app _)) (xs := [.non, .int 5, .str (rep [97] 201), .tup [.str [97, 64, 48]]]) (lst_of get_new) (by omega) (by simp) (by decide) (by omega)) ?_
      rintro v h6 ⟨hv, R6, E6⟩
      have hv : BadV v := by
        simp only [List.mem_cons, List.not_mem_nil, or_false] at hv
        rcases hv with rfl | rfl | rfl | rfl
        · exact .inl rfl
        · exact .inr (.inl ⟨_, rfl⟩)
        · exact .inr (.inr (.inr ⟨_, rfl, by rw [rep_len]; decide, by rw [rep_len]; decide⟩))
        · exact .inr (.inr (.inl ⟨_, rfl⟩))
      walk_at "g"
      refine t_flawB (by omega) hv ?_
      refine ⟨rfl, ?_⟩
      walk_at "g"
      refine t_plainB (by omega) hv ?_
      refine ⟨rfl, ?_⟩
      walk_at "g"
      refine w_use (t_alike 2 _ _ _ ?_ (by omega)) ?_
      · refine ⟨?_, by decide⟩
        intro x hx
        simp only [List.mem_cons, List.not_mem_nil, or_false] at hx
        rcases hx with rfl | rfl | rfl | rfl
        · trivial
        · exact ⟨by intro x hx; simp at hx; rcases hx with rfl | rfl <;> exact trivial, by decide⟩
        · exact ⟨by intro x hx; simp at hx; rcases hx with rfl | rfl <;> exact trivial, by decide⟩
        · exact ⟨by intro x hx; simp at hx; rcases hx with rfl | rfl <;> exact trivial, by decide⟩
      · rintro v h7 ⟨rfl, G7⟩
        have hr : h7[h6.length]? = some (.lst [.str tx, .str tx]) := G7.get get_new
        walk_at "g"
        refine w_eqL (xs := [.str tx, .str tx]) (ys := [.str tx, .str tx]) (lst_of (app_get hr)) (lst_of get_new) rfl rfl (by decide) ?_
        walk_at "g"
        rfl
end
end P35

namespace P35
open PySem PySem.Spec PyProof.Rows L2 Mx Ms
def dep : Nat := 225
abbrev G0 : GL := hd.gl [] fun _ => none
theorem laws (kept : KeptM G0 f_law dep 63) {w : World} {K : PySem.W.Frag} {hp : Heap} {mg : Str → Option Value} {fa : Addr} (says : He.SaysX [] ds [] [("law", none)] (hB hd) w hp K) (X : K.In hp) (Gm : hp.Ns mainGlobals mg) (hfa : mg "law" = some (.ref fa)) :
    LamX.LawAtS PySem.Challenge.rw_ferriedover_k35_whole_questions_and_thei w K (L2.CX (PySem.Challenge.rw_ferriedover_k35_whole_questions_and_thei).prog w) (dep + 6) 63 "script" mg fa hp :=
  law_at (dl := d_law) (dr := d_L_refused) hok (mem_by 39 rfl) (mem_by 29 rfl) s_law r_ref (List.mem_of_getElem? (i := 29) rfl) (List.mem_of_getElem? (i := 39) rfl) says X Gm hfa kept
end P35
open PySem PySem.W PySem.Calls PyProof.Rows
theorem h35 (kept : Ms.KeptM P35.G0 P35.f_law P35.dep 63) : PySem.Challenge.rw_ferriedover_k35_whole_questions_and_thei.Holds := by
  w_on; o_law
  refine HandSHeadRun.head_any (r := OpenLaw.row PySem.Challenge.rw_ferriedover_k35_whole_questions_and_thei) (q := view (OpenLaw.row PySem.Challenge.rw_ferriedover_k35_whole_questions_and_thei).prog [P35.lawIx]) (H := P35.hk) (ob := P35.ob) (M := 4000) (loose := P35.loose) (d := HandSHeadRun.topDef (OpenLaw.row PySem.Challenge.rw_ferriedover_k35_whole_questions_and_thei).prog P35.lawIx) (kwd := []) P35.ob_eq
    (by kernel_rfl) (fun s => by kernel_rfl) P35.run (by kernel_rfl) (by kernel_rfl) (by kernel_rfl) (by rfl) (by first | assumption | decide +kernel) (by decide +kernel) ⟨rfl, rfl, rfl, rfl, rfl, by decide +kernel⟩ ?hw ?hc
  case hw => w_witness2
  case hc =>
    refine LamX.walk_ofTsE (l := PySem.Challenge.rw_ferriedover_k35_whole_questions_and_thei) (n := 63) (k := P35.dep + 6) (x := "script") (CX := fun w => L2.CX (PySem.Challenge.rw_ferriedover_k35_whole_questions_and_thei).prog w) rfl (by decide) (by kernel_rfl) ⟨rfl, by decide, by decide⟩ ?F (fun _ _ _ _ _ z => by
      obtain ⟨_, _, _, _, _, _, _, _, _, _, _, _, z⟩ := z
      exact z)
    intro w mg fa h Y G hmg0
    obtain ⟨K, KX, c⟩ := Y
    have hmg : mg ("law" : PySem.Str) = some (.ref fa) := by
      have e : (HandSHeadRun.topDef (OpenLaw.row PySem.Challenge.rw_ferriedover_k35_whole_questions_and_thei).prog P35.lawIx).name = ("law" : PySem.Str) := by kernel_rfl
      rw [← e]
      exact hmg0
    exact ⟨K, KX, P35.laws kept c KX G hmg⟩

namespace P35
open PySem Mx Ms
theorem kept : KeptM G0 f_law dep 63 := by
  intro ns hn hb o ho
  obtain ⟨v, h', e, rfl⟩ := w_inv (t_law ns o ho)
  exact ⟨h', e⟩
end P35

theorem PySem.Challenge.cw_ferriedover_k35_whole_questions_and_thei_holds : PySem.Challenge.rw_ferriedover_k35_whole_questions_and_thei.Holds := by
  exact h35 P35.kept
