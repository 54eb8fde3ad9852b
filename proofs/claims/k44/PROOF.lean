import PyProof.Rows.All
import Wide.All
import OpenK.AllK
import Wide.FinOn
import HandS.ForMost
import HandS.Exc
import HandS.Defaults
import HandS.Property
import HandS.Ends
import HandS.HeadEnd
import PyProof.ReprReads
import HandS.IsInst
import HandS.Conv
import HandS.TupAny
import HandS.TupMul
import HandS.Zip
import HandS.Wide
import HandS.Deep
import HandS.MakeKw
import HandS.Flow
import HandS.Style
import HandS.Star
import KE.KTupSum
import KE.GoesEnum
import HandS.Comp
import HandS.TupSets
import KE.KSortTupG
import HandS.SortInts
import HandS.RaiseMore
import PyProof.ReprRoads
import PyProof.CallFns
import HandS.More
import KE.KStateDown
import HandS.Words
import HandS.WordsExc
import HandS.Head0
import HandS.Head1
import HandS.Head2
import HandS.HeadHook1
import HandS.HeadHook2
import HandS.HeadHook3
import PyProof.ReprBulk
import PyProof.Rows.ReprOcc
import PySem.Challenge.RW_placedbylengths_k44_whole_papers_of_ball
set_option Elab.async false
set_option linter.all false
set_option maxRecDepth 100000
set_option maxHeartbeats 0
section
set_option Elab.async false
set_option linter.all false
set_option maxRecDepth 100000
set_option maxHeartbeats 4000000
/-! Promises of defs where it is known that no repr is under way. -/
namespace Ev
open PySem PySem.Spec PyProof.Rows L2
/-- room, and no guard stands -/
structure Room (k : Nat) (A : Around) : Prop where
  r : L2.Room k A
  gd : A.guards = some []
namespace Room
variable {j k : Nat} {A : Around}
theorem hd (h : Ev.Room k A) : A.handled = none := h.r.hd
theorem mono (h : Ev.Room k A) (l : j ≤ k) : Ev.Room j A := ⟨h.r.mono l, h.gd⟩
theorem make (h : Ev.Room (k + 1) A) (C : Addr) (us : List Value) (kw : List (PySem.Str × Value)) : Ev.Room k (A.under (.builtin "type.__call__" ⟨.ref C :: us, kw⟩)) := by
  refine ⟨h.r.make C us kw, ?_⟩
  have e : Code.isGuard (.builtin "type.__call__" ⟨.ref C :: us, kw⟩) = false := by
    show guardIds.contains "type.__call__" = false
    decide +kernel
  show pushGuards (Code.guards (.builtin "type.__call__" ⟨.ref C :: us, kw⟩)) A.guards = some []
  unfold Code.guards
  rw [e]
  exact h.gd
theorem depth (h : Ev.Room k A) : A.depth < recursionLimit := h.r.depth
end Room
/-- a def's promise -/
structure FnOk (P : Program) (w : World) (K : PySem.W.Frag) (mg : PySem.Str → Option Value) (base : Heap) (CX : CXT) (k : Nat) (f : Addr) (fd : FuncData) (ps : List PySem.Str) (sp : Sp) : Prop where
  len : ∀ vs H Q E, sp vs H Q E → vs.length = ps.length
  run : ∀ (A : Around) (outer : List Env) (s : Shared) (H : Hp) (args : Args) (us : List Value) (vs : List V) (Q : VK) (E : XK),
    Ev.Room k A → Env0 P w K mg base A outer s H → BindsTo s fd args (ps.zip us) → Vals vs us → sp vs H Q E → codeAny (model P w) A (.call (.ref f) args) (CR CX outer P w H s Q E) s
section
variable {P : Program} {w : World} {K : PySem.W.Frag} {mg : PySem.Str → Option Value} {base : Heap} {k : Nat} {f : Addr} {fd : FuncData} {ps : List PySem.Str} {sp : Sp}
end
section
variable {X : Cx} {CX : CXT} {k : Nat} {C p g a dx : Addr} {fs : List (PySem.Str × V)} {f : PySem.Str} {fd : FuncData} {ps : List PySem.Str} {sp : Sp} {E : XK}
end
/-! ### the law's call -/
end Ev
end

section
set_option linter.all false
set_option maxRecDepth 100000
/-! A small evaluator: compact syntax, values as data, a store for what is shared and changed. -/
namespace Ev
open PySem (Str Operator CmpOp UnaryOp PyData)

/-- a value -/
inductive AV where
  | non
  | bl (b : Bool)
  | int (i : Int)
  | str (s : Str)
  /-- a tuple -/
  | tup (xs : List AV)
  /-- a list that nobody changes any more -/
  | lst (xs : List AV)
  /-- an instance that nobody changes any more -/
  | ins (c : Nat) (ns : List Nat) (vs : List AV)
  /-- a list or an instance of the store -/
  | ref (n : Nat)
  /-- a def of the text -/
  | fn (f : Nat)
  /-- a class of the text -/
  | cls (c : Nat)
  /-- a list that one slot alone holds (or that was just made) -/
  | own (xs : List AV)
  /-- a look at such a list -/
  | bor (par : Bool) (xs : List AV)
  /-- a list from outside, read alone -/
  | scr (xs : List AV)
  deriving Inhabited

/-- what stands in the store -/
inductive Cell where
  | lst (xs : List AV)
  | ins (c : Nat) (ns : List Nat) (vs : List AV)

abbrev G := List (Option Cell)
abbrev Sl := List (Option AV)

/-- an exception: its class, its one attribute -/
structure Ex where
  c : Nat
  v : Option AV

inductive R (α : Type) where
  | ok (a : α) (g : G)
  | ex (e : Ex) (g : G)
  | no

@[inline] def R.bind {α β : Type} (r : R α) (f : α → G → R β) : R β :=
  match r with
  | .ok a g => f a g
  | .ex e g => .ex e g
  | .no => .no
@[simp] theorem R.bind_ok {α β : Type} (a : α) (g : G) (f : α → G → R β) : (R.ok a g).bind f = f a g := rfl
@[simp] theorem R.bind_ex {α β : Type} (e : Ex) (g : G) (f : α → G → R β) : (R.ex e g : R α).bind f = R.ex e g := rfl
@[simp] theorem R.bind_no {α β : Type} (f : α → G → R β) : (R.no : R α).bind f = R.no := rfl
def R.opt {α : Type} (o : Option α) (g : G) : R α :=
  match o with
  | some a => .ok a g
  | none => .no
@[simp] theorem R.opt_some {α : Type} (a : α) (g : G) : R.opt (some a) g = .ok a g := rfl
@[simp] theorem R.opt_none {α : Type} (g : G) : R.opt (none : Option α) g = .no := rfl

abbrev sizeLine : Nat := 16777216

/-! ### values -/
/-- a value where it is kept: a list just made is nobody's; a look can't be kept -/
def AV.keep : AV → Option AV
  | .own xs => some (.lst xs)
  | .bor _ _ => none
  | v => some v
/-- a value where it is handed over for a while -/
def AV.hand : AV → AV
  | .own xs => .lst xs
  | v => v
/-- a value as an argument -/
def AV.arg : AV → AV
  | .own xs => .lst xs
  | .bor _ xs => .bor true xs
  | v => v
/-- a slot's value, looked at -/
def AV.look : AV → AV
  | .own xs => .bor false xs
  | v => v
/-- a value as a slot takes it (k: a list just made stays the slot's own) -/
def AV.put (k : Bool) : AV → Option AV
  | .own xs => some (if k then .own xs else .lst xs)
  | .bor _ _ => none
  | v => some v
/-- a value that a def hands back -/
def AV.back : AV → Option AV
  | .bor _ _ => none
  | v => some v
def AV.solid : AV → Bool
  | .own _ => false
  | .bor _ _ => false
  | _ => true
theorem AV.keep_solid {v : AV} (h : v.solid = true) : v.keep = some v := by cases v <;> first | rfl | cases h
theorem AV.hand_solid {v : AV} (h : v.solid = true) : v.hand = v := by cases v <;> first | rfl | cases h
theorem AV.look_solid {v : AV} (h : v.solid = true) : v.look = v := by cases v <;> first | rfl | cases h
theorem AV.put_solid {v : AV} {k : Bool} (h : v.solid = true) : v.put k = some v := by cases v <;> first | rfl | cases h
theorem AV.back_solid {v : AV} (h : v.solid = true) : v.back = some v := by cases v <;> first | rfl | cases h
/-- the items of a list -/
def seqL (g : G) : AV → Option (List AV)
  | .lst xs => some xs
  | .own xs => some xs
  | .bor _ xs => some xs
  | .ref n => match g[n]? with
    | some (some (.lst xs)) => some xs
    | _ => none
  | _ => none
/-- the items of a list or a tuple -/
def seqA (g : G) : AV → Option (List AV)
  | .tup xs => some xs
  | .scr xs => some xs
  | v => seqL g v

mutual
/-- no part lies in the store -/
def AV.pure : AV → Bool
  | .tup xs => AV.pures xs
  | .lst xs => AV.pures xs
  | .ins _ _ vs => AV.pures vs
  | .ref _ => false
  | .own xs => AV.pures xs
  | .bor _ xs => AV.pures xs
  | .scr xs => AV.pures xs
  | _ => true
def AV.pures : List AV → Bool
  | [] => true
  | v :: vs => AV.pure v && AV.pures vs
end

/-- data of a depth of at most n -/
def dat : Nat → AV → Bool
  | _, .non => true
  | _, .bl _ => true
  | _, .int _ => true
  | _, .str s => s.cps.all (· < 0x110000)
  | n + 1, .tup xs => xs.all (dat n)
  | n + 1, .lst xs => xs.all (dat n)
  | n + 1, .own xs => xs.all (dat n)
  | n + 1, .bor _ xs => xs.all (dat n)
  | _, _ => false

mutual
/-- == of data -/
def eqv : AV → AV → Bool
  | .non, .non => true
  | .bl a, .bl b => a == b
  | .bl a, .int j => (if a then 1 else 0) == j
  | .int i, .bl b => i == (if b then 1 else 0)
  | .int i, .int j => decide (i = j)
  | .str x, .str y => decide (x = y)
  | .tup xs, .tup ys => eqvs xs ys
  | .lst xs, .lst ys => eqvs xs ys
  | .lst xs, .own ys => eqvs xs ys
  | .lst xs, .bor _ ys => eqvs xs ys
  | .own xs, .lst ys => eqvs xs ys
  | .own xs, .own ys => eqvs xs ys
  | .own xs, .bor _ ys => eqvs xs ys
  | .bor _ xs, .lst ys => eqvs xs ys
  | .bor _ xs, .own ys => eqvs xs ys
  | .bor _ xs, .bor _ ys => eqvs xs ys
  | _, _ => false
def eqvs : List AV → List AV → Bool
  | [], [] => true
  | x :: xs, y :: ys => eqv x y && eqvs xs ys
  | _, _ => false
end

/-- truth -/
def truA (g : G) : AV → Option Bool
  | .non => some false
  | .bl b => some b
  | .int i => some (decide (i ≠ 0))
  | .str s => if s.length ≤ sizeLine then some (decide (s.length ≠ 0)) else none
  | .tup xs => some (!xs.isEmpty)
  | .lst xs => some (!xs.isEmpty)
  | .own xs => some (!xs.isEmpty)
  | .bor _ xs => some (!xs.isEmpty)
  | .ref n => match g[n]? with
    | some (some (.lst xs)) => some (!xs.isEmpty)
    | _ => none
  | _ => none

/-! ### operators -/
def smallI (i : Int) : Bool := decide (-18446744073709551616 < i) && decide (i < 18446744073709551616)
def mulOk (i j : Int) : Bool := smallI i || smallI j || decide (i.natAbs.log2 + j.natAbs.log2 < 134217000)
def powOk (i j : Int) : Bool := decide (0 ≤ j) && ((decide (j ≤ 1000000) && smallI i) || decide (((i.natAbs.log2 : Int) + 1) * j ≤ 134217728))
def b2i (b : Bool) : Int := if b then 1 else 0

def addA (g : G) (x y : AV) : Option AV :=
  match x, y with
  | .int i, .int j => some (.int (i + j))
  | .str a, .str b => if a.length + b.length ≤ sizeLine then some (.str (a ++ b)) else none
  | .tup a, .tup b => if a.length + b.length ≤ sizeLine then some (.tup (a ++ b)) else none
  | x, y => match seqL g x, seqL g y with
    | some a, some b => if a.length + b.length ≤ sizeLine then some (.own (a ++ b)) else none
    | _, _ => none
def subA (x y : AV) : Option AV :=
  match x, y with
  | .int i, .int j => some (.int (i - j))
  | _, _ => none
def mulA (g : G) (x y : AV) : Option AV :=
  match x, y with
  | .int i, .int j => if mulOk i j then some (.int (i * j)) else none
  | .tup a, .int k => if decide (1 ≤ k) && decide (k ≤ 1000) && !a.isEmpty && decide (a.length ≤ 1000) then some (.tup (List.replicate k.toNat a).flatten) else none
  | x, .int k => match seqL g x with
    | some a => if a.length * k.toNat ≤ sizeLine && decide (-4611686018427387904 ≤ k) && decide (k < 4611686018427387904) then some (.own (List.replicate k.toNat a).flatten) else none
    | none => none
  | _, _ => none
def divOk (j : Int) : Bool := decide (j ≠ 0) && decide (j.natAbs.log2 < 9000)
def fdivA (x y : AV) : Option AV :=
  match x, y with
  | .int i, .int j => if divOk j then some (.int (i.fdiv j)) else none
  | _, _ => none
def modA (x y : AV) : Option AV :=
  match x, y with
  | .int i, .int j => if decide (j ≠ 0) then some (.int (i.fmod j)) else none
  | _, _ => none
def powA (x y : AV) : Option AV :=
  match x, y with
  | .int i, .int j => if powOk i j then some (.int (i ^ j.toNat)) else none
  | _, _ => none
def binop (g : G) (op : Operator) (x y : AV) : Option AV :=
  match op with
  | .Add => addA g x y
  | .Sub => subA x y
  | .Mult => mulA g x y
  | .FloorDiv => fdivA x y
  | .Mod => modA x y
  | .Pow => powA x y
  | _ => none
def negA : AV → Option AV
  | .int i => some (.int (-i))
  | _ => none

def eqA (x y : AV) : Option Bool := if dat 60 x && dat 60 y then some (eqv x y) else none
def ordA (p : Int → Int → Bool) (x y : AV) : Option Bool :=
  match x, y with
  | .int i, .int j => some (p i j)
  | _, _ => none
/-- is, the right side None, True or False -/
def isNon : AV → Bool
  | .non => true
  | _ => false
def isA (x y : AV) : Option Bool :=
  match y with
  | .non => some (isNon x)
  | .bl b => match x with
    | .bl a => some (a == b)
    | _ => none
  | _ => none
def flatA : AV → Bool
  | .non => true
  | .bl _ => true
  | .int _ => true
  | .str _ => true
  | _ => false
def inA (x y : AV) : Option Bool :=
  match y with
  | .lst ys => if dat 60 x && dat 60 y then some (ys.any fun z => eqv z x) else none
  | .own ys => if dat 60 x && dat 60 y then some (ys.any fun z => eqv z x) else none
  | .bor _ ys => if dat 60 x && dat 60 y then some (ys.any fun z => eqv z x) else none
  | .tup ys => if flatA x && ys.all flatA then some (ys.any fun z => eqv z x) else none
  | _ => none
def cmpA (g : G) (op : CmpOp) (x y : AV) : Option Bool :=
  match op with
  | .Eq => eqA x y
  | .NotEq => (eqA x y).map (!·)
  | .Lt => ordA (fun i j => decide (i < j)) x y
  | .LtE => ordA (fun i j => decide (i ≤ j)) x y
  | .Gt => ordA (fun i j => decide (j < i)) x y
  | .GtE => ordA (fun i j => decide (j ≤ i)) x y
  | .Is => isA x y
  | .IsNot => (isA x y).map (!·)
  | .In => inA x y
  | .NotIn => (inA x y).map (!·)

/-! ### places, slices -/
def ixN (n : Nat) (i : Int) : Option Nat := if 0 ≤ i then (if i < n then some i.toNat else none) else if -(n : Int) ≤ i then some (i + n).toNat else none
def atI (xs : List AV) (i : Int) : Option AV := (ixN xs.length i).bind fun j => xs[j]?
def idxA (g : G) (x i : AV) : Option AV :=
  match i with
  | .int k => match seqA g x with
    | some xs => atI xs k
    | none => none
  | _ => none
/-- a slice's bound as a place among n (d where it is left out) -/
def sIx (n d : Nat) : Option Int → Nat
  | none => d
  | some v => if v < 0 then (v + (n : Int)).toNat else min v.toNat n
def cut (xs : List AV) (lo hi : Option Int) : List AV := (xs.drop (sIx xs.length 0 lo)).take (sIx xs.length xs.length hi - sIx xs.length 0 lo)
def slcA (g : G) (x : AV) (lo hi : Option Int) : Option AV :=
  match x with
  | .tup xs => some (.tup (cut xs lo hi))
  | x => match seqA g x with
    | some xs => some (.own (cut xs lo hi))
    | none => none

/-! ### data as the library has it -/
mutual
def toD : AV → PyData
  | .bl b => .bool b
  | .int i => .int i
  | .str x => .str x
  | .tup xs => .tuple (toDs xs)
  | .lst xs => .list (toDs xs)
  | .own xs => .list (toDs xs)
  | .bor _ xs => .list (toDs xs)
  | _ => .none
def toDs : List AV → List PyData
  | [] => []
  | x :: xs => toD x :: toDs xs
end
/-- the text of data -/
def shwA (x : AV) : Str := (toD x).shown
def shwOk (x : AV) : Bool := dat 60 x && (toD x).showable && decide ((shwA x).length ≤ sizeLine)

/-! ### what is known of types -/
inductive TyT where
  | int | bool | str | tup | lst | own (c : Nat)
  deriving DecidableEq

/-! ### built-in calls -/
inductive Bf where
  | len | abs | all | any | bool | divmod | int | list | max | min | str | sum | tuple | lenset | repr | sorted
  deriving DecidableEq
def intsOf : List AV → Option (List Int)
  | [] => some []
  | .int i :: r => (intsOf r).map (i :: ·)
  | _ => none
def boolsOf : List AV → Option (List Bool)
  | [] => some []
  | .bl b :: r => (boolsOf r).map (b :: ·)
  | _ => none
def maxL : Int → List Int → Int
  | m, [] => m
  | m, i :: r => maxL (if m < i then i else m) r
def minL : Int → List Int → Int
  | m, [] => m
  | m, i :: r => minL (if i < m then i else m) r
/-! sorted -/
def insS {α : Type} (le : α → α → Bool) (x : α) : List α → List α
  | [] => [x]
  | y :: r => if le x y then x :: y :: r else y :: insS le x r
def isortS {α : Type} (le : α → α → Bool) : List α → List α
  | [] => []
  | x :: r => insS le x (isortS le r)
/-- the rank of a row of digits -/
def codeZ (B : Int) : List Int → Int
  | [] => 0
  | d :: r => d * B ^ r.length + codeZ B r
def tupI : AV → Option (List Int)
  | .tup xs => intsOf xs
  | _ => none
def tupsI : List AV → Option (List (List Int))
  | [] => some []
  | x :: r => (tupI x).bind fun a => (tupsI r).map (a :: ·)
/-- rows of as many digits -/
def sortOk (L : List (List Int)) : Bool := (match L with
  | [] => true
  | a :: _ => decide (1 ≤ a.length) && L.all fun b => decide (b.length = a.length) && b.all fun m => decide (0 ≤ m) && decide (m < 1048576))
def leI (a b : Int) : Bool := decide (a ≤ b)
def leT (a b : List Int) : Bool := decide (codeZ 1048576 a ≤ codeZ 1048576 b)
/-- the items of a list, or of a tuple of ints -/
def seqS (g : G) : AV → Option (List AV)
  | .tup xs => if (intsOf xs).isSome then some xs else none
  | v => seqL g v
def sortA (xs : List AV) : Option (List AV) := match intsOf xs with
  | some is => some ((isortS leI is).map .int)
  | none => (tupsI xs).bind fun L => if sortOk L then some ((isortS leT L).map fun l => .tup (l.map .int)) else none
def lenA (g : G) : AV → Option Int
  | .str s => if s.length ≤ sizeLine then some s.length else none
  | v => (seqA g v).map fun xs => (xs.length : Int)
def bfA (g : G) (b : Bf) (xs : List AV) : Option AV :=
  match b, xs with
  | .len, [v] => (lenA g v).map .int
  | .abs, [.int i] => some (.int (if i < 0 then -i else i))
  | .all, [v] => ((seqL g v).bind boolsOf).map fun bs => .bl (bs.all id)
  | .any, [v] => ((seqL g v).bind boolsOf).map fun bs => .bl (bs.any id)
  | .bool, [.int i] => some (.bl (decide (i ≠ 0)))
  | .bool, [.bl b] => some (.bl b)
  | .divmod, [.int i, .int j] => if 0 < j && j < 1073741824 then some (.tup [.int (i / j), .int (i % j)]) else none
  | .int, [.int i] => some (.int i)
  | .int, [.bl b] => some (.int (b2i b))
  | .list, [v] => (seqA g v).map .own
  | .max, [.int i, .int j] => some (.int (if i < j then j else i))
  | .min, [.int i, .int j] => some (.int (if j < i then j else i))
  | .max, [v] => match (seqA g v).bind intsOf with
    | some (i :: r) => some (.int (maxL i r))
    | _ => none
  | .min, [v] => match (seqA g v).bind intsOf with
    | some (i :: r) => some (.int (minL i r))
    | _ => none
  | .sum, [v] => ((seqA g v).bind intsOf).map fun is => .int is.sum
  | .tuple, [v] => (seqA g v).map .tup
  | .str, [.int i] => if i.natAbs.log2 < 1920 then some (.str (Str.ofString (toString i))) else none
  | .str, [.str x] => some (.str x)
  | .sorted, [v] => (seqS g v).bind fun xs => (sortA xs).map .own
  | .repr, [v] => if shwOk v then some (.str (shwA v)) else none
  | _, _ => none

/-! ### the compact syntax -/
/-- a target: a slot (k: a list just made stays the slot's own) -/
inductive Tg where
  | v (i : Nat) (k : Bool)
  | tup (ts : List Tg)
mutual
inductive E where
  | lit (v : AV)
  | var (i : Nat)
  | tup (es : Es)
  /-- a list; cell: it lies in the store -/
  | lst (cell : Bool) (es : Es)
  | bin (op : Operator) (a b : E)
  | neg (a : E)
  | cmp (op : CmpOp) (a b : E)
  | chain (op op' : CmpOp) (a b c : E)
  | and (a b : E)
  | or (a b : E)
  | not (a : E)
  | ite (c a b : E)
  | idx (a i : E)
  | slc (a : E) (lo hi : Eo)
  /-- a comprehension of one clause; of two -/
  | comp (cell : Bool) (t : Tg) (it : It) (cs : Es) (e : E)
  | comp2 (cell : Bool) (t : Tg) (it : It) (cs : Es) (t' : Tg) (it' : It) (cs' : Es) (e : E)
  /-- list(e), the list in the store -/
  | lsc (e : E)
  /-- list(range(..)) -/
  | lrg1 (a : E)
  | lrg2 (a b : E)
  /-- e[::-1] -/
  | rev (e : E)
  /-- len(set(e)), e a tuple of ints -/
  | lset (e : E)
  /-- isinstance(e, (tuple, list)) -/
  | isTL (e : E)
  /-- tuple(range(a)) -/
  | trg1 (a : E)
  /-- a def called; pm: where each parameter's value stands among the written ones -/
  | call (f : Nat) (es ks : Es) (dfl : List AV) (pm : List Nat)
  /-- a value that is a def, called -/
  | callv (e : E) (es : Es)
  /-- e in D (neg: not in), D a table of the module: a known key alone; D[e] -/
  | inT (neg : Bool) (ks : List Str) (e : E)
  | atT (kvs : List (Str × Int × Nat)) (e : E)
  | bf (b : Bf) (es : Es)
  | isi (e : E) (t : TyT)
  /-- an instance; fz: nobody changes it behind its __init__ -/
  | make (c : Nat) (fz : Bool) (es ks : Es) (dfl : List AV) (pm : List Nat)
  | attr (o : E) (a : Nat)
  | meth (o : E) (m : Nat) (es ks : Es) (dfl : List AV) (pm : List Nat)
inductive Es where
  | nil
  | cons (star : Bool) (e : E) (es : Es)
inductive Eo where
  | none
  | some (e : E)
inductive It where
  | val (e : E)
  | rng (es : Es)
  | enum (e : E)
  | zip (a b : E)
  /-- enumerate(zip(a, b)) -/
  | ez (a b : E)
end

mutual
inductive S where
  | pass
  | asg (t : Ta) (e : E)
  /-- a, b = e, e' -/
  | par (is : List Nat) (es : Es)
  /-- a, b = e, e', the second a slot's own list -/
  | parO (i j : Nat) (a b : E)
  /-- a, b, .. = e, e', ..: each name's slot as its flag says -/
  | parP (ts : List (Nat × Bool)) (es : Es)
  | aug (i : Nat) (op : Operator) (e : E)
  /-- x[k] += e, x a slot's own list -/
  | augI (i : Nat) (k e : E)
  /-- x += e, x a slot's own list -/
  | ext (i : Nat) (e : E)
  | expr (e : E)
  /-- o.append(e) -/
  | app (o e : E)
  /-- x.append(e), x a slot's own list -/
  | appO (i : Nat) (e : E)
  /-- x.insert(k, e), x a slot's own list -/
  | insO (i : Nat) (k e : E)
  | ifs (c : E) (a b : Ss)
  | whl (c : E) (b : Ss)
  | fors (t : Tg) (it : It) (b : Ss)
  | ret (e : E)
  | retN
  /-- return x, x a slot's own list -/
  | retT (i : Nat)
  | raise (c : Nat) (es : Es)
  /-- never come to -/
  | no
  /-- (no Python) the slot's own list is nobody's from now on -/
  | frz (i : Nat)
inductive Ss where
  | nil
  | cons (s : S) (r : Ss)
/-- what is assigned to -/
inductive Ta where
  | t (t : Tg)
  /-- x[i], x a slot's own list -/
  | own (s : Nat) (i : E)
  /-- o[i], o a list of the store -/
  | idx (a i : E)
  | attr (o : E) (a : Nat)
  | tup (ts : Tas)
inductive Tas where
  | nil
  | cons (t : Ta) (r : Tas)
end

/-- a def: its parameters, slots; iso: it looks at nothing of the store -/
structure FnD where
  np : Nat
  ns : Nat
  iso : Bool
  body : Ss
/-- a class: its __init__, its methods, its properties, its instances' attributes, the classes above it (it among them) -/
structure ClsD where
  init : Option Nat
  meths : List (Nat × Nat)
  props : List (Nat × Nat)
  atts : List Nat
  sups : List Nat
structure Pg where
  fns : Nat → Option FnD
  clss : Nat → Option ClsD

def Pg.sub (P : Pg) (c d : Nat) : Bool := match P.clss c with
  | some k => k.sups.contains d
  | none => false

/-- isinstance -/
def isinst (P : Pg) (g : G) (t : TyT) : AV → Option Bool
  | .non => some false
  | .bl _ => some (t == .bool || t == .int)
  | .int _ => some (t == .int)
  | .str _ => some (t == .str)
  | .tup _ => some (t == .tup)
  | .lst _ => some (t == .lst)
  | .own _ => some (t == .lst)
  | .bor _ _ => some (t == .lst)
  | .scr _ => some (t == .lst)
  | .ins c _ _ => match P.clss c with
    | some _ => some (match t with | .own d => P.sub c d | _ => false)
    | none => none
  | .ref n => match g[n]? with
    | some (some (.lst _)) => some (t == .lst)
    | some (some (.ins c _ _)) => match P.clss c with
      | some _ => some (match t with | .own d => P.sub c d | _ => false)
      | none => none
    | _ => none
  | _ => none

/-! ### the run -/
/-- handing a value to a target -/
def tgA : Tg → AV → Sl → Option Sl
  | .v i k, v, σ => (v.put k).map fun v => σ.set i (some v)
  | .tup ts, .tup vs, σ => tgAs ts vs σ
  | .tup _, _, _ => none
where tgAs : List Tg → List AV → Sl → Option Sl
  | [], [], σ => some σ
  | t :: ts, v :: vs, σ => (tgA t v σ).bind fun σ' => tgAs ts vs σ'
  | _, _, _ => none

/-- the slots of a target -/
def tgI : Tg → List Nat
  | .v i _ => [i]
  | .tup ts => tgIs ts
where tgIs : List Tg → List Nat
  | [] => []
  | t :: ts => tgI t ++ tgIs ts
/-- slots forgotten -/
def wipeA (σ : Sl) : List Nat → Sl
  | [] => σ
  | v :: vs => (wipeA σ vs).set v none
/-- no exception comes out -/
def R.nox {α : Type} : R α → R α
  | .ex _ _ => .no
  | r => r
@[simp] theorem R.nox_ok {α : Type} (a : α) (g : G) : (R.ok a g).nox = .ok a g := rfl
def forL {α : Type} (f : α → Sl → G → R (Option AV × Sl)) : List α → Sl → G → R (Option AV × Sl)
  | [], σ, g => .ok (none, σ) g
  | x :: xs, σ, g => (f x σ g).bind fun r g1 => match r.1 with
    | some v => .ok (some v, r.2) g1
    | none => forL f xs r.2 g1
def whlL (c : Sl → G → R Bool) (b : Sl → G → R (Option AV × Sl)) : Nat → Sl → G → R (Option AV × Sl)
  | 0, _, _ => .no
  | n + 1, σ, g => (c σ g).bind fun t g1 => if t then (b σ g1).bind fun r g2 => match r.1 with
    | some v => .ok (some v, r.2) g2
    | none => whlL c b n r.2 g2 else .ok (none, σ) g1
/-- the items that a comprehension makes, one behind another -/
def compL {α : Type} (f : α → G → R (List AV)) : List α → G → R (List AV)
  | [], g => .ok [] g
  | x :: xs, g => (f x g).bind fun ys g1 => (compL f xs g1).bind fun zs g2 => .ok (ys ++ zs) g2
def rngL (lo : Int) : Nat → List AV
  | 0 => []
  | n + 1 => .int lo :: rngL (lo + 1) n
def rngA : List AV → Option (List AV)
  | [.int j] => if -4611686018427387904 ≤ j && j < 4611686018427387904 then some (rngL 0 j.toNat) else none
  | [.int i, .int j] => if -4611686018427387904 ≤ i && i < 4611686018427387904 && -4611686018427387904 ≤ j && j < 4611686018427387904 then some (rngL i (j - i).toNat) else none
  | _ => none
/-- what may be walked (st: by a for statement, whose suite may change the slots' own lists) -/
def srcOk (st : Bool) : AV → Bool
  | .ref _ => false
  | .bor par _ => par || !st
  | _ => true
def enumL (i : Int) : List AV → List AV
  | [] => []
  | x :: xs => .tup [.int i, x] :: enumL (i + 1) xs
def zipL : List AV → List AV → List AV
  | x :: xs, y :: ys => .tup [x, y] :: zipL xs ys
  | _, _ => []
def permA (pm : List Nat) (vs : List AV) : Option (List AV) := match pm with
  | [] => some vs
  | _ => pm.mapM fun i => vs[i]?
def alloc (c : Cell) (g : G) : R AV := .ok (.ref g.length) (g ++ [some c])
/-- a new list, in the store or nobody's -/
def mkL (cell : Bool) (vs : List AV) (g : G) : R AV := if vs.length ≤ sizeLine then (match cell with
  | true => alloc (.lst vs) g
  | false => .ok (.own vs) g) else .no
def putF (a : Nat) (v : AV) : List Nat → List AV → List Nat × List AV
  | n :: ns, w :: ws => if n = a then (n :: ns, v :: ws) else ((n :: (putF a v ns ws).1), (w :: (putF a v ns ws).2))
  | _, _ => ([a], [v])
def getF (a : Nat) : List Nat → List AV → Option AV
  | n :: ns, w :: ws => if n = a then some w else getF a ns ws
  | _, _ => none
/-- the value without the store -/
def frzV (g : G) : Nat → AV → Option AV
  | 0, _ => none
  | k + 1, v => match v with
    | .ref n => match g[n]? with
      | some (some (.lst xs)) => (xs.mapM (frzV g k)).map .lst
      | some (some (.ins c ns vs)) => (vs.mapM (frzV g k)).map (.ins c ns)
      | _ => none
    | .tup xs => (xs.mapM (frzV g k)).map .tup
    | .lst xs => (xs.mapM (frzV g k)).map .lst
    | .ins c ns vs => (vs.mapM (frzV g k)).map (.ins c ns)
    | .own _ => none
    | .bor _ _ => none
    | .scr xs => if AV.pures xs then some (.scr xs) else none
    | v => some v
/-- a value's attributes -/
def fldsA (g : G) : AV → Option (Nat × List Nat × List AV)
  | .ins c ns vs => some (c, ns, vs)
  | .ref n => match g[n]? with
    | some (some (.ins c ns vs)) => some (c, ns, vs)
    | _ => none
  | _ => none
/-- how many turns a while may have -/
def fuelW : Nat := 2 ^ 100000

abbrev CallT := Nat → List AV → G → R AV

/-- a call whose value is no look -/
def callB (call : CallT) (f : Nat) (vs : List AV) (g : G) : R AV := (call f vs g).bind fun v g1 => R.opt v.back g1
section
variable (P : Pg) (call : CallT)
/-- x[::-1] -/
def revA (g : G) : AV → Option AV
  | .tup xs => some (.tup xs.reverse)
  | v => (seqL g v).map fun xs => .own xs.reverse
/-- each int once -/
def onceI : List Int → List Int
  | [] => []
  | x :: r => if x ∈ r then onceI r else x :: onceI r
def lsetA : AV → Option AV
  | .tup xs => (intsOf xs).bind fun ns => if ns.length < 60 then some (.int ((onceI ns).length : Int)) else none
  | _ => none
def isTLA : AV → Option Bool
  | .non => some false
  | .bl _ => some false
  | .int _ => some false
  | .str _ => some false
  | .tup _ => some true
  | .lst _ => some true
  | .own _ => some true
  | .bor _ _ => some true
  | _ => none
/-- o.a -/
def attrA (o : AV) (a : Nat) (g : G) : R AV := match fldsA g o with
  | some (c, ns, vs) => match P.clss c with
    | some k => match k.props.lookup a with
      | some f => (callB call f [o] g).nox
      | none => if k.atts.contains a then R.opt (getF a ns vs) g else .no
    | none => .no
  | none => .no
/-- fz: its __init__ runs in a store of its own, behind it nobody changes it; pu: the arguments have no part in the store -/
def makeA (c : Nat) (fz pu : Bool) (vs : List AV) (g : G) : R AV := match P.clss c with
  | some k => match k.init with
    | some f => match fz with
      | true => if pu then match call f (.ref 0 :: vs) [some (.ins c [] [])] with
        | .ok .non g' => R.opt ((frzV g' 12 (.ref 0)).bind fun v => if v.pure then some v else none) g
        | .ex e _ => if (match e.v with | some v => v.pure | none => true) then .ex e g else .no
        | _ => .no else .no
      | false => (call f (.ref g.length :: vs) (g ++ [some (.ins c [] [])])).bind fun r g' => match r with
        | .non => .ok (.ref g.length) g'
        | _ => .no
    | none => .no
  | none => .no
/-- tables of the module: texts to pairs of an int and a def -/
def inTA (neg : Bool) (ks : List Str) : AV → Option AV
  | .str s => if ks.contains s then some (.bl (!neg)) else none
  | _ => none
def atTA (kvs : List (Str × Int × Nat)) : AV → Option AV
  | .str s => (kvs.lookup s).map fun p => .tup [.int p.1, .fn p.2]
  | _ => none
/-- the method that o.m is (o has no attribute of its name) -/
def mthA (o : AV) (m : Nat) (g : G) : Option Nat := match fldsA g o with
  | some (c, ns, _) => if ns.contains m then none else (P.clss c).bind fun k => k.meths.lookup m
  | none => none

mutual
def evE : E → Sl → G → R AV
  | .lit v, _, g => .ok v g
  | .var i, σ, g => match σ[i]? with
    | some (some v) => .ok v.look g
    | _ => .no
  | .tup es, σ, g => (evEs es σ g).bind fun vs g1 => R.opt ((vs.mapM AV.keep).bind fun vs => if vs.length ≤ sizeLine then some (.tup vs) else none) g1
  | .lst cell es, σ, g => (evEs es σ g).bind fun vs g1 => match vs.mapM AV.keep with
    | some vs => if vs.length ≤ sizeLine then (match cell with
      | true => alloc (.lst vs) g1
      | false => .ok (.own vs) g1) else .no
    | none => .no
  | .bin op a b, σ, g => (evE a σ g).bind fun x g1 => (evE b σ g1).bind fun y g2 => R.opt (binop g2 op x y) g2
  | .neg a, σ, g => (evE a σ g).bind fun x g1 => R.opt (negA x) g1
  | .cmp op a b, σ, g => (evE a σ g).bind fun x g1 => (evE b σ g1).bind fun y g2 => R.opt ((cmpA g2 op x y).map .bl) g2
  | .chain op op' a b c, σ, g => (evE a σ g).bind fun x g1 => (evE b σ g1).bind fun y g2 => (R.opt (cmpA g2 op x y) g2).bind fun t g3 =>
      if t then (evE c σ g3).bind fun z g4 => R.opt ((cmpA g4 op' y z).map .bl) g4 else .ok (.bl false) g3
  | .and a b, σ, g => (evE a σ g).bind fun x g1 => (R.opt (truA g1 x) g1).bind fun t g2 => if t then evE b σ g2 else .ok x.hand g2
  | .or a b, σ, g => (evE a σ g).bind fun x g1 => (R.opt (truA g1 x) g1).bind fun t g2 => if t then .ok x.hand g2 else evE b σ g2
  | .not a, σ, g => (evE a σ g).bind fun x g1 => R.opt ((truA g1 x).map fun t => .bl (!t)) g1
  | .ite c a b, σ, g => (evE c σ g).bind fun x g1 => (R.opt (truA g1 x) g1).bind fun t g2 => if t then evE a σ g2 else evE b σ g2
  | .idx a i, σ, g => (evE a σ g).bind fun x g1 => (evE i σ g1).bind fun y g2 => R.opt (idxA g2 x y) g2
  | .slc a lo hi, σ, g => (evE a σ g).bind fun x g1 => (evEo lo σ g1).bind fun l g2 => (evEo hi σ g2).bind fun h g3 => R.opt (slcA g3 x l h) g3
  | .comp cell t it cs e, σ, g => (evIt false it σ g).bind fun xs g1 => (compL (fun x g2 => (R.opt (tgA t x (wipeA σ (tgI t))) g2).bind fun σ1 g3 =>
      (evCs cs σ1 g3).nox.bind fun ok g4 => if ok then (evE e σ1 g4).nox.bind fun v g5 => R.opt (v.keep.map fun v => [v]) g5 else .ok [] g4) xs g1).bind fun vs g6 => mkL cell vs g6
  | .comp2 cell t it cs t' it' cs' e, σ, g => (evIt false it σ g).bind fun xs g1 => (compL (fun x g2 => (R.opt (tgA t x (wipeA σ (tgI t ++ tgI t'))) g2).bind fun σ1 g3 =>
      (evCs cs σ1 g3).nox.bind fun ok g4 => if ok then (evIt false it' σ1 g4).nox.bind fun ys g5 => compL (fun y g6 => (R.opt (tgA t' y (wipeA σ1 (tgI t'))) g6).bind fun σ2 g7 =>
        (evCs cs' σ2 g7).nox.bind fun ok g8 => if ok then (evE e σ2 g8).nox.bind fun v g9 => R.opt (v.keep.map fun v => [v]) g9 else .ok [] g8) ys g5
      else .ok [] g4) xs g1).bind fun vs g6 => mkL cell vs g6
  | .lsc e, σ, g => (evE e σ g).bind fun v g1 => (R.opt (seqA g1 v) g1).bind fun xs g2 => alloc (.lst xs) g2
  | .lrg1 a, σ, g => (evE a σ g).bind fun x g1 => R.opt ((rngA [x]).bind fun xs => if xs.length ≤ sizeLine then some (.own xs) else none) g1
  | .lrg2 a b, σ, g => (evE a σ g).bind fun x g1 => (evE b σ g1).bind fun y g2 => R.opt ((rngA [x, y]).bind fun xs => if xs.length ≤ sizeLine then some (.own xs) else none) g2
  | .rev e, σ, g => (evE e σ g).bind fun v g1 => R.opt (revA g1 v) g1
  | .lset e, σ, g => (evE e σ g).bind fun v g1 => R.opt (lsetA v) g1
  | .isTL e, σ, g => (evE e σ g).bind fun v g1 => R.opt ((isTLA v).map .bl) g1
  | .trg1 a, σ, g => (evE a σ g).bind fun x g1 => R.opt ((rngA [x]).bind fun xs => if xs.length ≤ sizeLine then some (.tup xs) else none) g1
  | .call f es ks dfl pm, σ, g => (evEs es σ g).bind fun vs g1 => (evEs ks σ g1).bind fun ws g2 => (R.opt (permA pm (vs.map AV.arg ++ ws.map AV.arg ++ dfl)) g2).bind fun us g3 => callB call f us g3
  | .callv e es, σ, g => (evE e σ g).bind fun x g1 => match x with
    | .fn f => if (P.fns f).isSome then (evEs es σ g1).bind fun vs g2 => callB call f (vs.map AV.arg) g2 else .no
    | _ => .no
  | .inT neg ks e, σ, g => (evE e σ g).bind fun x g1 => R.opt (inTA neg ks x) g1
  | .atT kvs e, σ, g => (evE e σ g).bind fun x g1 => R.opt (atTA kvs x) g1
  | .bf b es, σ, g => (evEs es σ g).bind fun vs g1 => R.opt (bfA g1 b vs) g1
  | .isi e t, σ, g => (evE e σ g).bind fun x g1 => R.opt ((isinst P g1 t x).map .bl) g1
  | .make c fz es ks dfl pm, σ, g => (evEs es σ g).bind fun vs g1 => (evEs ks σ g1).bind fun ws g2 => (R.opt (permA pm (vs.map AV.arg ++ ws.map AV.arg ++ dfl)) g2).bind fun us g3 => makeA P call c fz (AV.pures (vs.map AV.arg ++ ws.map AV.arg)) us g3
  | .attr o a, σ, g => (evE o σ g).bind fun x g1 => attrA P call x a g1
  | .meth o m es ks dfl pm, σ, g => (evE o σ g).bind fun x g1 => (R.opt (mthA P x m g1) g1).bind fun f g2 => (evEs es σ g2).bind fun vs g3 => (evEs ks σ g3).bind fun ws g4 => (R.opt (permA pm (vs.map AV.arg ++ ws.map AV.arg ++ dfl)) g4).bind fun us g5 => callB call f (x :: us) g5
/-- arguments, items, from the left -/
def evEs : Es → Sl → G → R (List AV)
  | .nil, _, g => .ok [] g
  | .cons star e es, σ, g => (evE e σ g).bind fun v g1 => match star with
    | false => (evEs es σ g1).bind fun vs g2 => .ok (v :: vs) g2
    | true => match seqA g1 v with
      | some xs => (evEs es σ g1).bind fun vs g2 => .ok (xs ++ vs) g2
      | none => .no
def evEo : Eo → Sl → G → R (Option Int)
  | .none, _, g => .ok none g
  | .some e, σ, g => (evE e σ g).bind fun v g1 => match v with
    | .int i => .ok (some i) g1
    | _ => .no
/-- what is walked: its items (st: by a for statement) -/
def evIt : Bool → It → Sl → G → R (List AV)
  | st, .val e, σ, g => (evE e σ g).bind fun v g1 => if srcOk st v then R.opt (seqA g1 v) g1 else .no
  | _, .rng es, σ, g => (evEs es σ g).bind fun vs g1 => R.opt (rngA vs) g1
  | st, .enum e, σ, g => (evE e σ g).bind fun v g1 => if srcOk st v then R.opt ((seqA g1 v).map (enumL 0)) g1 else .no
  | st, .zip a b, σ, g => (evE a σ g).bind fun x g1 => (evE b σ g1).bind fun y g2 => if srcOk st x && srcOk st y then R.opt ((seqA g2 x).bind fun xs => (seqA g2 y).map fun ys => zipL xs ys) g2 else .no
  | st, .ez a b, σ, g => (evE a σ g).bind fun x g1 => (evE b σ g1).bind fun y g2 => if srcOk st x && srcOk st y then R.opt ((seqA g2 x).bind fun xs => (seqA g2 y).map fun ys => enumL 0 (zipL xs ys)) g2 else .no
/-- the tests of a clause -/
def evCs : Es → Sl → G → R Bool
  | .nil, _, g => .ok true g
  | .cons _ c cs, σ, g => (evE c σ g).bind fun v g1 => (R.opt (truA g1 v) g1).bind fun t g2 => if t then evCs cs σ g2 else .ok false g2
end
/-- a statement's test -/
def evC (c : E) (σ : Sl) (g : G) : R Bool := (evE P call c σ g).bind fun v g1 => R.opt (truA g1 v) g1

def Tas.len : Tas → Nat
  | .nil => 0
  | .cons _ r => Tas.len r + 1
/-- several names at once -/
def parA : List Nat → List AV → Sl → Option Sl
  | [], [], σ => some σ
  | i :: is, v :: vs, σ => v.keep.bind fun v => parA is vs (σ.set i (some v))
  | _, _, _ => none

/-- values for several names, one behind another -/
def evPs : List (Nat × Bool) → Es → Sl → G → R (List AV)
  | [], .nil, _, g => .ok [] g
  | (_, k) :: ts, .cons false e es, σ, g => (evE P call e σ g).bind fun x g1 => match x.put k with
    | some y => (evPs ts es σ g1).bind fun ys g2 => .ok (y :: ys) g2
    | none => .no
  | _, _, _, _ => .no
def setP : List (Nat × Bool) → List AV → Sl → Sl
  | (i, _) :: ts, v :: vs, σ => setP ts vs (σ.set i (some v))
  | _, _, σ => σ
/-- handing a value over -/
def asgA : Ta → AV → Sl → G → R Sl
  | .t t, v, σ, g => R.opt (tgA t v σ) g
  | .own s i, v, σ, g => match v.keep with
    | none => .no
    | some v => match σ[s]? with
      | some (some (.own xs)) => (evE P call i σ g).bind fun y g1 => match y with
        | .int k => match ixN xs.length k with
          | some j => .ok (σ.set s (some (.own (xs.set j v)))) g1
          | none => .no
        | _ => .no
      | _ => .no
  | .idx a i, v, σ, g => match v.keep with
    | none => .no
    | some v => (evE P call a σ g).bind fun x g1 => (evE P call i σ g1).bind fun y g2 => match x, y with
      | .ref n, .int k => match g2[n]? with
        | some (some (.lst xs)) => match ixN xs.length k with
          | some j => .ok σ (g2.set n (some (.lst (xs.set j v))))
          | none => .no
        | _ => .no
      | _, _ => .no
  | .attr o a, v, σ, g => match v.keep with
    | none => .no
    | some v => (evE P call o σ g).bind fun x g1 => match x with
      | .ref n => match g1[n]? with
        | some (some (.ins c ns vs)) => (match P.clss c with
          | some k => if ns.length < 900 && k.atts.contains a then .ok σ (g1.set n (some (.ins c (putF a v ns vs).1 (putF a v ns vs).2))) else .no
          | none => .no)
        | _ => .no
      | _ => .no
  | .tup ts, v, σ, g => match v with
    | .tup vs => if vs.length = ts.len then asgAs ts vs σ g else .no
    | _ => .no
where asgAs : Tas → List AV → Sl → G → R Sl
  | .nil, [], σ, g => .ok σ g
  | .cons t r, v :: vs, σ, g => (asgA t v σ g).bind fun σ1 g1 => asgAs r vs σ1 g1
  | _, _, _, _ => .no

mutual
def evS : S → Sl → G → R (Option AV × Sl)
  | .pass, σ, g => .ok (none, σ) g
  | .asg t e, σ, g => (evE P call e σ g).bind fun v g1 => (asgA P call t v σ g1).bind fun σ1 g2 => .ok (none, σ1) g2
  | .par is es, σ, g => (evEs P call es σ g).bind fun vs g1 => (R.opt (parA is vs σ) g1).bind fun σ1 g2 => .ok (none, σ1) g2
  | .aug i op e, σ, g => match σ[i]? with
    | some (some (.int x)) => (evE P call e σ g).bind fun y g1 => match op, y with
      | .Add, .int y => .ok (none, σ.set i (some (.int (x + y)))) g1
      | .Sub, .int y => .ok (none, σ.set i (some (.int (x - y)))) g1
      | _, _ => .no
    | _ => .no
  | .ext i e, σ, g => match σ[i]? with
    | some (some (.own xs)) => (evE P call e σ g).bind fun y g1 => match seqL g1 y with
      | some ys => if xs.length + ys.length ≤ sizeLine then .ok (none, σ.set i (some (.own (xs ++ ys)))) g1 else .no
      | none => .no
    | _ => .no
  | .expr e, σ, g => (evE P call e σ g).bind fun _ g1 => .ok (none, σ) g1
  | .app o e, σ, g => (evE P call o σ g).bind fun x g1 => match x with
    | .ref n => match g1[n]? with
      | some (some (.lst _)) => (evE P call e σ g1).bind fun v g2 => match v.keep with
        | some v => match g2[n]? with
          | some (some (.lst xs)) => if xs.length < sizeLine then .ok (none, σ) (g2.set n (some (.lst (xs ++ [v])))) else .no
          | _ => .no
        | none => .no
      | _ => .no
    | _ => .no
  | .appO i e, σ, g => match σ[i]? with
    | some (some (.own xs)) => (evE P call e σ g).bind fun v g1 => match v.keep with
      | some v => if xs.length < sizeLine then .ok (none, σ.set i (some (.own (xs ++ [v])))) g1 else .no
      | none => .no
    | _ => .no
  | .augI i k e, σ, g => match σ[i]? with
    | some (some (.own xs)) => (evE P call k σ g).bind fun y g1 => match y with
      | .int q => if 0 ≤ q then match xs[q.toNat]? with
        | some (.int m) => (evE P call e σ g1).bind fun z g2 => match z with
          | .int n => .ok (none, σ.set i (some (.own (xs.set q.toNat (.int (m + n)))))) g2
          | _ => .no
        | _ => .no
        else .no
      | _ => .no
    | _ => .no
  | .parO i j a b, σ, g => (evE P call a σ g).bind fun x g1 => match x.keep with
    | some x => (evE P call b σ g1).bind fun y g2 => match y.put true with
      | some y => .ok (none, (σ.set i (some x)).set j (some y)) g2
      | none => .no
    | none => .no
  | .parP ts es, σ, g => (evPs P call ts es σ g).bind fun vs g1 => .ok (none, setP ts vs σ) g1
  | .insO i k e, σ, g => match σ[i]? with
    | some (some (.own xs)) => (evE P call k σ g).bind fun y g1 => (evE P call e σ g1).bind fun v g2 => match y, v.keep with
      | .int j, some v => if xs.length < sizeLine && decide (0 ≤ j) && decide (j < 9223372036854775808) then .ok (none, σ.set i (some (.own (xs.take j.toNat ++ [v] ++ xs.drop j.toNat)))) g2 else .no
      | _, _ => .no
    | _ => .no
  | .ifs c a b, σ, g => (evC P call c σ g).bind fun t g1 => if t then evSs a σ g1 else evSs b σ g1
  | .whl c b, σ, g => whlL (evC P call c) (evSs b) fuelW σ g
  | .fors t it b, σ, g => (evIt P call true it σ g).bind fun xs g1 => forL (fun x σ1 g2 => (R.opt (tgA t x σ1) g2).bind fun σ2 g3 => evSs b σ2 g3) xs σ g1
  | .ret e, σ, g => (evE P call e σ g).bind fun v g1 => R.opt (v.back.map fun v => (some v, σ)) g1
  | .retN, σ, g => .ok (some .non, σ) g
  | .retT i, σ, g => match σ[i]? with
    | some (some (.own xs)) => .ok (some (.own xs), σ) g
    | _ => .no
  | .raise c es, σ, g => (evEs P call es σ g).bind fun vs g1 => match vs.mapM AV.keep with
    | some [] => .ex ⟨c, none⟩ g1
    | some [v] => .ex ⟨c, some v⟩ g1
    | _ => .no
  | .no, _, _ => .no
  | .frz i, σ, g => match σ[i]? with
    | some (some (.own xs)) => .ok (none, σ.set i (some (.lst xs))) g
    | _ => .ok (none, σ) g
def evSs : Ss → Sl → G → R (Option AV × Sl)
  | .nil, σ, g => .ok (none, σ) g
  | .cons s r, σ, g => (evS s σ g).bind fun x g1 => match x.1 with
    | some v => .ok (some v, x.2) g1
    | none => evSs r x.2 g1
end
end

def startA (n : Nat) (vs : List AV) : Sl := vs.map some ++ List.replicate (n - vs.length) none
/-- a def called, so many calls deep at most -/
def callN (P : Pg) : Nat → CallT
  | 0, _, _, _ => .no
  | n + 1, f, vs, g => match P.fns f with
    | some d => if vs.length = d.np then (match d.iso with
      | true => if AV.pures vs then (match evSs P (callN P n) d.body (startA d.ns vs) [] with
        | .ok (r, _) _ => match r with
          | some v => if v.pure then .ok v g else .no
          | none => .ok .non g
        | .ex e _ => if (match e.v with | some v => v.pure | none => true) then .ex e g else .no
        | .no => .no) else .no
      | false => (evSs P (callN P n) d.body (startA d.ns vs) g).bind fun r g1 => .ok (r.1.getD .non) g1) else .no
    | none => .no
end Ev
end

section
set_option Elab.async false
set_option linter.all false
set_option maxRecDepth 100000
/-! How the evaluator's values lie in the abstract heap. -/
namespace Ev
open PySem PySem.Spec PyProof.Rows L2

/-- whose a list is -/
inductive Own where
  | cell (n : Nat) | slot (i : Nat) | tmp | out | grow
  deriving DecidableEq
/-- where the store's cells lie, whose the objects are, the abstract heap -/
structure Wd where
  ρ : List Addr
  ow : Addr → Option Own
  H : Hp
/-- where the text's defs and classes lie, the attributes' names -/
structure Tb where
  K : PySem.W.Frag
  fa : Nat → Addr
  ca : Nat → Addr
  an : Nat → Str
  xa : Nat → Str

mutual
inductive RV (T : Tb) (W : Wd) : AV → V → Prop where
  | non : RV T W .non .non
  | bl (b : Bool) : RV T W (.bl b) (.bl b)
  | int (i : Int) : RV T W (.int i) (.int i)
  | str (x : Str) : RV T W (.str x) (.str x)
  | tup {a : Addr} {xs : List AV} {vs : List V} (h : W.H a = some (.tup vs)) (o : W.ow a = none) (r : RVs T W xs vs) : RV T W (.tup xs) (.ref a)
  | tupK {a : Addr} {xs : List AV} {vs : List V} (h : SqT T.K (fun _ => none) a vs) (r : RVs T W xs vs) : RV T W (.tup xs) (.ref a)
  | scrK {a : Addr} {xs : List AV} {vs : List V} (h : SqL T.K (fun _ => none) a vs) (r : RVs T W xs vs) : RV T W (.scr xs) (.ref a)
  | scr {a : Addr} {u : Obj} {xs : List AV} {vs : List V} (h : W.H a = some (.frz u (.lst vs))) (o : W.ow a = none) (r : RVs T W xs vs) : RV T W (.scr xs) (.ref a)
  | lst {a : Addr} {xs : List AV} {vs : List V} (h : W.H a = some (.lst vs)) (o : W.ow a = none) (r : RVs T W xs vs) : RV T W (.lst xs) (.ref a)
  | ins {a dx : Addr} {c : Nat} {ns : List Nat} {ws : List AV} {fs : List (Str × V)} (h : W.H a = some (.ins (T.ca c) dx fs)) (o : W.ow a = none)
      (n : fs.map (·.1) = ns.map T.an) (r : RVs T W ws (fs.map (·.2))) : RV T W (.ins c ns ws) (.ref a)
  | ref {n : Nat} {a : Addr} (h : W.ρ[n]? = some a) : RV T W (.ref n) (.ref a)
  | fn (f : Nat) : RV T W (.fn f) (.ref (T.fa f))
  | cls (c : Nat) : RV T W (.cls c) (.ref (T.ca c))
inductive RVs (T : Tb) (W : Wd) : List AV → List V → Prop where
  | nil : RVs T W [] []
  | cons {x : AV} {v : V} {xs : List AV} {vs : List V} (h : RV T W x v) (t : RVs T W xs vs) : RVs T W (x :: xs) (v :: vs)
end

/-- what is nobody's stays -/
structure Le (W W' : Wd) : Prop where
  pre : ∀ (n : Nat) (a : Addr), W.ρ[n]? = some a → W'.ρ[n]? = some a
  frz : ∀ (a : Addr) (o : HO), W.H a = some o → W.ow a = none → W'.H a = some o ∧ W'.ow a = none
/-- what is no cell stays (a thing just made may find an owner); a cell stays a cell -/
structure LeE (W W' : Wd) : Prop where
  pre : ∀ (n : Nat) (a : Addr), W.ρ[n]? = some a → W'.ρ[n]? = some a
  keep : ∀ (a : Addr) (o : HO), W.H a = some o → (∀ n, W.ow a ≠ some (.cell n)) → W'.H a = some o ∧ (W'.ow a = W.ow a ∨ (W.ow a = some .tmp ∧ ∀ n, W'.ow a ≠ some (.cell n)))
  cel : ∀ (a : Addr) (n : Nat) (o : HO), W.H a = some o → W.ow a = some (.cell n) → W'.ow a = some (.cell n) ∧ ∃ o', W'.H a = some o'
theorem LeE.le {W W' : Wd} (h : LeE W W') : Le W W' where
  pre := h.pre
  frz := fun a o e n => by
    obtain ⟨e1, k | ⟨k, _⟩⟩ := h.keep a o e (by rw [n]; intro _ z; cases z)
    · exact ⟨e1, k.trans n⟩
    · rw [n] at k; cases k
theorem Le.refl (W : Wd) : Le W W := ⟨fun _ _ h => h, fun _ _ h n => ⟨h, n⟩⟩
theorem LeE.refl (W : Wd) : LeE W W := ⟨fun _ _ h => h, fun _ _ h _ => ⟨h, .inl rfl⟩, fun _ _ o h e => ⟨e, o, h⟩⟩
theorem LeE.trans {A B C : Wd} (h : LeE A B) (k : LeE B C) : LeE A C where
  pre := fun n a e => k.pre n a (h.pre n a e)
  keep := fun a o e n => by
    obtain ⟨e1, o1⟩ := h.keep a o e n
    have nc : ∀ m, B.ow a ≠ some (.cell m) := by
      rcases o1 with o1 | ⟨_, o1⟩
      · rw [o1]; exact n
      · exact o1
    obtain ⟨e2, o2⟩ := k.keep a o e1 nc
    refine ⟨e2, ?_⟩
    rcases o1 with o1 | ⟨t1, o1⟩
    · rcases o2 with o2 | ⟨t2, o2⟩
      · exact .inl (o2.trans o1)
      · exact .inr ⟨o1 ▸ t2, o2⟩
    · rcases o2 with o2 | ⟨t2, o2⟩
      · exact .inr ⟨t1, by rw [o2]; exact o1⟩
      · exact .inr ⟨t1, o2⟩
  cel := fun a n o e c => by
    obtain ⟨c1, o1, e1⟩ := h.cel a n o e c
    exact k.cel a n o1 e1 c1
theorem Le.trans {A B C : Wd} (h : Le A B) (k : Le B C) : Le A C :=
  ⟨fun n a e => k.pre n a (h.pre n a e), fun a o e n => let ⟨e1, n1⟩ := h.frz a o e n; k.frz a o e1 n1⟩
section
variable {T : Tb} {W W' : Wd}
mutual
theorem RV.mono (h : Le W W') : ∀ {x : AV} {v : V}, RV T W x v → RV T W' x v
  | _, _, .non => .non
  | _, _, .bl b => .bl b
  | _, _, .int i => .int i
  | _, _, .str x => .str x
  | _, _, .tup e o r => .tup (h.frz _ _ e o).1 (h.frz _ _ e o).2 (RVs.mono h r)
  | _, _, .scr e o r => .scr (h.frz _ _ e o).1 (h.frz _ _ e o).2 (RVs.mono h r)
  | _, _, .tupK e r => .tupK e (RVs.mono h r)
  | _, _, .scrK e r => .scrK e (RVs.mono h r)
  | _, _, .lst e o r => .lst (h.frz _ _ e o).1 (h.frz _ _ e o).2 (RVs.mono h r)
  | _, _, .ins e o n r => .ins (h.frz _ _ e o).1 (h.frz _ _ e o).2 n (RVs.mono h r)
  | _, _, .ref e => .ref (h.pre _ _ e)
  | _, _, .fn f => .fn f
  | _, _, .cls c => .cls c
theorem RVs.mono (h : Le W W') : ∀ {xs : List AV} {vs : List V}, RVs T W xs vs → RVs T W' xs vs
  | _, _, .nil => .nil
  | _, _, .cons r t => .cons (RV.mono h r) (RVs.mono h t)
end
theorem RVs.length : ∀ {xs : List AV} {vs : List V}, RVs T W xs vs → xs.length = vs.length
  | _, _, .nil => rfl
  | _, _, .cons _ t => by simp [RVs.length t]
theorem RVs.append : ∀ {xs ys : List AV} {vs ws : List V}, RVs T W xs vs → RVs T W ys ws → RVs T W (xs ++ ys) (vs ++ ws)
  | _, _, _, _, .nil, s => s
  | _, _, _, _, .cons r t, s => .cons r (RVs.append t s)
theorem RVs.get : ∀ {xs : List AV} {vs : List V} {i : Nat} {x : AV}, RVs T W xs vs → xs[i]? = some x → ∃ v, vs[i]? = some v ∧ RV T W x v
  | _, _, _, _, .nil, e => by simp at e
  | _, _, 0, _, .cons r _, e => by simp at e; subst e; exact ⟨_, rfl, r⟩
  | _, _, i + 1, x, .cons _ t, e => by
    obtain ⟨v, h1, h2⟩ := RVs.get (i := i) (x := x) t (by simpa using e)
    exact ⟨v, by simpa using h1, h2⟩
theorem RVs.set {x : AV} {v : V} (r : RV T W x v) : ∀ {xs : List AV} {vs : List V} (i : Nat), RVs T W xs vs → RVs T W (xs.set i x) (vs.set i v)
  | _, _, _, .nil => .nil
  | _, _, 0, .cons _ t => .cons r t
  | _, _, i + 1, .cons q t => .cons q (RVs.set r i t)
theorem RVs.take : ∀ {xs : List AV} {vs : List V} (n : Nat), RVs T W xs vs → RVs T W (xs.take n) (vs.take n)
  | _, _, 0, _ => by simp; exact .nil
  | _, _, _ + 1, .nil => .nil
  | _, _, n + 1, .cons r t => .cons r (RVs.take n t)
theorem RVs.drop : ∀ {xs : List AV} {vs : List V} (n : Nat), RVs T W xs vs → RVs T W (xs.drop n) (vs.drop n)
  | _, _, 0, r => r
  | _, _, _ + 1, .nil => .nil
  | _, _, n + 1, .cons _ t => by simpa using RVs.drop n t
theorem RVs.ints : ∀ {xs : List AV} {vs : List V} {is : List Int}, RVs T W xs vs → intsOf xs = some is → vs = is.map V.int
  | _, _, _, .nil, e => by simp [intsOf] at e; subst e; rfl
  | .int i :: xs, _, is, .cons (.int _) t, e => by
    simp only [intsOf] at e
    cases h : intsOf xs with
    | none => rw [h] at e; cases e
    | some js => rw [h] at e; cases e; rw [RVs.ints t h]; rfl
end

/-- a cell's content at an address -/
def RC (T : Tb) (W : Wd) (a : Addr) : Cell → Prop
  | .lst xs => ∃ vs, W.H a = some (.lst vs) ∧ RVs T W xs vs
  | .ins c ns ws => ∃ dx fs, W.H a = some (.ins (T.ca c) dx fs) ∧ fs.map (·.1) = ns.map T.an ∧ RVs T W ws (fs.map (·.2))
/-- the store -/
structure RG (T : Tb) (W : Wd) (g : G) : Prop where
  len : W.ρ.length = g.length
  at_ : ∀ (n : Nat) (c : Cell), g[n]? = some (some c) → ∃ a, W.ρ[n]? = some a ∧ W.ow a = some (.cell n) ∧ RC T W a c
/-- a look at a list of a slot of ours, or of a caller's -/
def RB (T : Tb) (W : Wd) (par : Bool) (xs : List AV) (v : V) : Prop := ∃ a vs, v = .ref a ∧ W.H a = some (.lst vs) ∧ ((par = false ∧ ∃ i, W.ow a = some (.slot i)) ∨ (par = true ∧ W.ow a = some .out)) ∧ RVs T W xs vs
/-- an expression's value -/
def RX (T : Tb) (W : Wd) : AV → V → Prop
  | .own xs, v => ∃ a vs, v = .ref a ∧ W.H a = some (.lst vs) ∧ W.ow a = some .tmp ∧ RVs T W xs vs
  | .bor k xs, v => RB T W k xs v
  | x, v => RV T W x v
/-- a value that is handed over: a list just made is nobody's -/
def RH (T : Tb) (W : Wd) (x : AV) (v : V) : Prop := match x with
  | .own xs => RV T W (.lst xs) v
  | .bor k xs => RB T W k xs v
  | x => RV T W x v
inductive RHs (T : Tb) (W : Wd) : List AV → List V → Prop where
  | nil : RHs T W [] []
  | cons {x : AV} {v : V} {xs : List AV} {vs : List V} (h : RH T W x v) (t : RHs T W xs vs) : RHs T W (x :: xs) (v :: vs)
/-- a slot's value -/
def RS (T : Tb) (W : Wd) (i : Nat) : AV → V → Prop
  | .own xs, v => ∃ a vs, v = .ref a ∧ W.H a = some (.lst vs) ∧ W.ow a = some (.slot i) ∧ RVs T W xs vs
  | .bor k xs, v => k = true ∧ ∃ a vs, v = .ref a ∧ W.H a = some (.lst vs) ∧ W.ow a = some .out ∧ RVs T W xs vs
  | x, v => RV T W x v
structure RSt (T : Tb) (W : Wd) (s : Sl) (σ : L2.St) : Prop where
  len : s.length = σ.length
  at_ : ∀ (i : Nat) (x : AV), s[i]? = some (some x) → ∃ v, σ[i]? = some (some v) ∧ RS T W i x v

section
variable {T : Tb} {W W' : Wd}
theorem RB.mono (h : LeE W W') {par : Bool} {xs : List AV} {v : V} (r : RB T W par xs v) : RB T W' par xs v := by
  obtain ⟨a, vs, rfl, e, o, r⟩ := r
  have nc : ∀ n, W.ow a ≠ some (.cell n) := by
    rcases o with ⟨_, i, o⟩ | ⟨_, o⟩ <;> (rw [o]; intro _ z; cases z)
  obtain ⟨e1, k⟩ := h.keep a _ e nc
  refine ⟨a, vs, rfl, e1, ?_, r.mono h.le⟩
  rcases k with k | ⟨k, _⟩
  · rw [k]; exact o
  · rcases o with ⟨_, i, o⟩ | ⟨_, o⟩ <;> (rw [o] at k; cases k)
theorem RS.mono (h : LeE W W') {i : Nat} {x : AV} {v : V} (r : RS T W i x v) : RS T W' i x v := by
  cases x with
  | own xs =>
    obtain ⟨a, vs, rfl, e, o, r⟩ := r
    obtain ⟨e1, k⟩ := h.keep a _ e (by rw [o]; intro _ z; cases z)
    refine ⟨a, vs, rfl, e1, ?_, r.mono h.le⟩
    rcases k with k | ⟨k, _⟩
    · rw [k]; exact o
    · rw [o] at k; cases k
  | bor k xs =>
    obtain ⟨hk, a, vs, rfl, e, o, r⟩ := r
    obtain ⟨e1, k⟩ := h.keep a _ e (by rw [o]; intro _ z; cases z)
    refine ⟨hk, a, vs, rfl, e1, ?_, r.mono h.le⟩
    rcases k with k | ⟨k, _⟩
    · rw [k]; exact o
    · rw [o] at k; cases k
  | _ => exact RV.mono h.le r
theorem RSt.mono (h : LeE W W') {s : Sl} {σ : L2.St} (r : RSt T W s σ) : RSt T W' s σ :=
  ⟨r.len, fun i x e => let ⟨v, e1, q⟩ := r.at_ i x e; ⟨v, e1, q.mono h⟩⟩
theorem RH.mono (h : LeE W W') {x : AV} {v : V} (r : RH T W x v) : RH T W' x v := by
  cases x with
  | own xs => exact RV.mono h.le r
  | bor k xs => exact RB.mono h r
  | _ => exact RV.mono h.le r
/-- the owner of the thing at a is another one -/
def Wd.tag (W : Wd) (a : Addr) (o : Option Own) : Wd := ⟨W.ρ, fun b => if b = a then o else W.ow b, W.H⟩
theorem Wd.tag_same {a : Addr} {o : Option Own} : (W.tag a o).ow a = o := if_pos rfl
theorem Wd.tag_ne {a b : Addr} {o : Option Own} (h : b ≠ a) : (W.tag a o).ow b = W.ow b := if_neg h
theorem LeE.tag {a : Addr} {o : Option Own} (h : W.ow a = some .tmp) (ho : ∀ n, o ≠ some (.cell n)) : LeE W (W.tag a o) where
  pre := fun _ _ e => e
  keep := fun b u e n => by
    refine ⟨e, ?_⟩
    by_cases hb : b = a
    · subst hb; rw [Wd.tag_same]; exact .inr ⟨h, ho⟩
    · rw [Wd.tag_ne hb]; exact .inl rfl
  cel := fun b n u e c => by
    have hb : b ≠ a := by rintro rfl; rw [h] at c; cases c
    exact ⟨by rw [Wd.tag_ne hb]; exact c, u, e⟩
theorem RC.mono (h : Le W W') {a : Addr} (e : ∀ o, W.H a = some o → W'.H a = some o) : ∀ {c : Cell}, RC T W a c → RC T W' a c
  | .lst xs, ⟨vs, h1, r⟩ => ⟨vs, e _ h1, r.mono h⟩
  | .ins _ _ _, ⟨dx, fs, h1, n, r⟩ => ⟨dx, fs, e _ h1, n, r.mono h⟩
theorem RG.tag {a : Addr} {o : Option Own} {g : G} (r : RG T W g) (h : W.ow a = some .tmp) (ho : ∀ n, o ≠ some (.cell n)) : RG T (W.tag a o) g := by
  refine ⟨r.len, fun n c e => ?_⟩
  obtain ⟨b, e1, e2, e3⟩ := r.at_ n c e
  have hb : b ≠ a := by rintro rfl; rw [h] at e2; cases e2
  exact ⟨b, e1, by rw [Wd.tag_ne hb]; exact e2, e3.mono (LeE.tag h ho).le fun _ z => z⟩
/-- a value as it is handed over -/
theorem RX.hand {g : G} {x : AV} {v : V} (r : RX T W x v) (hg : RG T W g) : ∃ W', W'.H = W.H ∧ LeE W W' ∧ RG T W' g ∧ RH T W' x v := by
  cases x with
  | own xs =>
    obtain ⟨a, vs, rfl, e, o, r⟩ := r
    have ho : ∀ n, (none : Option Own) ≠ some (.cell n) := fun _ z => by cases z
    exact ⟨W.tag a none, rfl, LeE.tag o ho, hg.tag o ho, .lst e Wd.tag_same (r.mono (LeE.tag o ho).le)⟩
  | bor k xs => exact ⟨W, rfl, LeE.refl W, hg, r⟩
  | _ => exact ⟨W, rfl, LeE.refl W, hg, r⟩
theorem RH.keep {x y : AV} {v : V} (r : RH T W x v) (e : x.keep = some y) : RV T W y v := by
  cases x <;> simp [AV.keep] at e <;> subst e <;> exact r
/-- as an argument -/
theorem RH.args {x : AV} {v : V} (r : RH T W x v) : RH T W x.hand v := by
  cases x <;> exact r

/-- a list that is read -/
theorem RH.list {g : G} {x : AV} {v : V} {xs : List AV} (r : RH T W x v) (hg : RG T W g) (e : seqL g x = some xs) : ∃ a vs, v = .ref a ∧ W.H a = some (.lst vs) ∧ RVs T W xs vs := by
  cases x with
  | lst ys =>
    simp only [seqL, Option.some.injEq] at e; subst e
    cases r with
    | lst h o q => exact ⟨_, _, rfl, h, q⟩
  | own ys =>
    simp only [seqL, Option.some.injEq] at e; subst e
    have r : RV T W (.lst ys) v := r
    cases r with
    | lst h o q => exact ⟨_, _, rfl, h, q⟩
  | bor k ys =>
    simp only [seqL, Option.some.injEq] at e; subst e
    obtain ⟨a, vs, rfl, h, _, r⟩ := r
    exact ⟨a, vs, rfl, h, r⟩
  | ref n =>
    have r : RV T W (.ref n) v := r
    cases r with
    | ref h =>
      simp only [seqL] at e
      split at e
      · rename_i ys hy
        cases e
        obtain ⟨b, e1, _, vs, e2, q⟩ := hg.at_ n _ hy
        have eb := Option.some.inj (h.symm.trans e1)
        subst eb
        exact ⟨_, vs, rfl, e2, q⟩
      · cases e
  | _ => simp [seqL] at e
theorem RH.tuple {x : AV} {v : V} {xs : List AV} (r : RH T W x v) (e : x = .tup xs) : ∃ a vs, v = .ref a ∧ SqT T.K W.H a vs ∧ RVs T W xs vs := by
  subst e
  have r : RV T W (.tup xs) v := r
  cases r with
  | tup h o q => exact ⟨_, _, rfl, .inl (.inl h), q⟩
  | tupK h q =>
    refine ⟨_, _, rfl, ?_, q⟩
    rcases h with h | h
    · rcases h with h | ⟨_, h⟩ <;> cases h
    · exact .inr h
/-- a list or a tuple that is read -/
theorem RH.seq {g : G} {x : AV} {v : V} {xs : List AV} (r : RH T W x v) (hg : RG T W g) (e : seqA g x = some xs) : ∃ a vs, v = .ref a ∧ (SqL T.K W.H a vs ∨ SqT T.K W.H a vs) ∧ RVs T W xs vs := by
  cases x with
  | tup ys =>
    simp only [seqA, Option.some.injEq] at e; subst e
    obtain ⟨a, vs, h1, h2, h3⟩ := r.tuple rfl
    exact ⟨a, vs, h1, .inr h2, h3⟩
  | scr ys =>
    simp only [seqA, Option.some.injEq] at e; subst e
    have r : RV T W (.scr ys) v := r
    cases r with
    | scrK h q =>
      refine ⟨_, _, rfl, .inl ?_, q⟩
      rcases h with (h | ⟨_, h⟩) | h
      · cases h
      · cases h
      · exact .inr h
    | scr h o q => exact ⟨_, _, rfl, .inl (.inl (.inr ⟨_, h⟩)), q⟩
  | _ =>
    obtain ⟨a, vs, h1, h2, h3⟩ := r.list hg (by simpa only [seqA] using e)
    exact ⟨a, vs, h1, .inl (.inl (.inl h2)), h3⟩
/-- a new thing -/
def Wd.new (W : Wd) (p : Addr) (u : HO) (o : Option Own) : Wd := ⟨W.ρ, fun b => if b = p then o else W.ow b, upd W.H p u⟩
theorem Wd.new_ow {p : Addr} {u : HO} {o : Option Own} : (W.new p u o).ow p = o := if_pos rfl
theorem Wd.new_at {p : Addr} {u : HO} {o : Option Own} : (W.new p u o).H p = some u := upd_same
theorem LeE.new {p : Addr} {u : HO} {o : Option Own} (h : W.H p = none) : LeE W (W.new p u o) where
  pre := fun _ _ e => e
  keep := fun b v e n => by
    have hb : b ≠ p := ne_of_none e h
    exact ⟨by show upd W.H p u b = _; rw [upd_ne hb]; exact e, .inl (if_neg hb)⟩
  cel := fun b n v e c => by
    have hb : b ≠ p := ne_of_none e h
    exact ⟨(if_neg hb : (W.new p u o).ow b = W.ow b).trans c, v, by show upd W.H p u b = _; rw [upd_ne hb]; exact e⟩
theorem RC.there {a : Addr} : ∀ {c : Cell}, RC T W a c → ∃ o, W.H a = some o
  | .lst _, ⟨_, h, _⟩ => ⟨_, h⟩
  | .ins _ _ _, ⟨_, _, h, _⟩ => ⟨_, h⟩
theorem RG.new {g : G} {p : Addr} {u : HO} {o : Option Own} (r : RG T W g) (h : W.H p = none) : RG T (W.new p u o) g := by
  refine ⟨r.len, fun n c e => ?_⟩
  obtain ⟨b, e1, e2, e3⟩ := r.at_ n c e
  obtain ⟨v, hv⟩ := e3.there
  have hb : b ≠ p := ne_of_none hv h
  exact ⟨b, e1, (if_neg hb : (W.new p u o).ow b = W.ow b).trans e2, e3.mono (LeE.new h).le fun v z => by show upd W.H p u b = _; rw [upd_ne hb]; exact z⟩
/-- a new list, just made -/
theorem RX.new {p : Addr} {xs : List AV} {vs : List V} (h : W.H p = none) (r : RVs T W xs vs) : RX T (W.new p (.lst vs) (some .tmp)) (.own xs) (.ref p) :=
  ⟨p, vs, rfl, Wd.new_at, Wd.new_ow, r.mono (LeE.new h).le⟩
/-- a new tuple -/
theorem RV.new {p : Addr} {xs : List AV} {vs : List V} (h : W.H p = none) (r : RVs T W xs vs) : RV T (W.new p (.tup vs) none) (.tup xs) (.ref p) :=
  .tup Wd.new_at Wd.new_ow (r.mono (LeE.new h).le)
theorem RV.x {x : AV} {v : V} (r : RV T W x v) : RX T W x v := by
  cases r <;> first
    | exact .non
    | exact .bl _
    | exact .int _
    | exact .str _
    | exact .tup ‹_› ‹_› ‹_›
    | exact .tupK ‹_› ‹_›
    | exact .scrK ‹_› ‹_›
    | exact .scr ‹_› ‹_› ‹_›
    | exact .lst ‹_› ‹_› ‹_›
    | exact .ins ‹_› ‹_› ‹_› ‹_›
    | exact .ref ‹_›
    | exact .fn _
    | exact .cls _
theorem RV.hnd {x : AV} {v : V} (r : RV T W x v) : RH T W x v := by
  cases r <;> first
    | exact .non
    | exact .bl _
    | exact .int _
    | exact .str _
    | exact .tup ‹_› ‹_› ‹_›
    | exact .tupK ‹_› ‹_›
    | exact .scrK ‹_› ‹_›
    | exact .scr ‹_› ‹_› ‹_›
    | exact .lst ‹_› ‹_› ‹_›
    | exact .ins ‹_› ‹_› ‹_› ‹_›
    | exact .ref ‹_›
    | exact .fn _
    | exact .cls _
end
end Ev
end

section
set_option Elab.async false
set_option linter.all false
set_option maxRecDepth 100000
set_option maxHeartbeats 4000000
/-! The readings by the evaluator; names, operators, comparisons, truth. -/
namespace Ev
open PySem PySem.Spec PyProof.Rows L2

/-- how an exception lies -/
def XW (T : Tb) (W : Wd) (e : Ex) (cls : Value) (d : Option Addr) : Prop :=
  cls = .ref (T.ca e.c) ∧ match e.v with
  | none => True
  | some v => ∃ da w, d = some da ∧ W.H da = some (.xd [(T.xa e.c, w)]) ∧ RV T W v w
def DR (T : Tb) (W : Wd) {α : Type} (Φ : α → G → Wd → Prop) (Ψ : Ex → G → Wd → Prop) : R α → Prop
  | .ok a g => ∀ W', LeE W W' → RG T W' g → Φ a g W'
  | .ex e g => ∀ W', LeE W W' → RG T W' g → Ψ e g W'
  | .no => False
section
variable {T : Tb} {W W' : Wd} {α β : Type} {Φ Φ' : α → G → Wd → Prop} {Ψ Ψ' : Ex → G → Wd → Prop}
theorem DR.mono {r : R α} (h : LeE W W') (d : DR T W Φ Ψ r) : DR T W' Φ Ψ r := by
  cases r with
  | ok a g => exact fun W1 l q => d W1 (h.trans l) q
  | ex e g => exact fun W1 l q => d W1 (h.trans l) q
  | no => exact d
theorem DR.imp {r : R α} (d : DR T W Φ Ψ r) (h : ∀ a g W', LeE W W' → RG T W' g → Φ a g W' → Φ' a g W') (k : ∀ e g W', Ψ e g W' → Ψ' e g W') : DR T W Φ' Ψ' r := by
  cases r with
  | ok a g => exact fun W1 l q => h a g W1 l q (d W1 l q)
  | ex e g => exact fun W1 l q => k e g W1 (d W1 l q)
  | no => exact d
theorem DR.bind {r : R α} {f : α → G → R β} {Φ : β → G → Wd → Prop} (d : DR T W Φ Ψ (r.bind f)) : DR T W (fun a g W1 => DR T W1 Φ Ψ (f a g)) Ψ r := by
  cases r with
  | ok a g => exact fun W1 l q => DR.mono l d
  | ex e g => exact d
  | no => exact d
theorem DR.opt {o : Option α} {g : G} (d : DR T W Φ Ψ (R.opt o g)) : ∃ a, o = some a ∧ ∀ W', LeE W W' → RG T W' g → Φ a g W' := by
  cases o with
  | none => exact d.elim
  | some a => exact ⟨a, rfl, d⟩
theorem DR.nox {r : R α} (d : DR T W Φ Ψ r.nox) : DR T W Φ (fun _ _ _ => False) r := by
  cases r with
  | ok a g => exact d
  | ex e g => exact d.elim
  | no => exact d
end

/-- what is wanted of an exception -/
def psi (T : Tb) (σ : L2.St) (Z : WX) : Ex → G → Wd → Prop := fun e _ W' => ∀ cls d, XW T W' e cls d → Z cls d σ W'.H
section
variable (P : Pg) (call : CallT) (T : Tb) (Z : WX)
/-- an expression's reading -/
def cE (e : E) : TE := fun σ H Q => ∃ W s g, W.H = H ∧ RSt T W s σ ∧ RG T W g ∧ DR T W (fun v _ W' => ∀ w, RX T W' v w → Q w W'.H) (psi T σ Z) (evE P call e s g)
/-- a test's -/
def cT (e : E) : TT := fun σ H Q => ∃ W s g, W.H = H ∧ RSt T W s σ ∧ RG T W g ∧ DR T W (fun b _ W' => Q b W'.H) (psi T σ Z) (evC P call e s g)
/-- an argument list's -/
def cA (es : Es) : TA := fun σ H Q => ∃ W s g, W.H = H ∧ RSt T W s σ ∧ RG T W g ∧ DR T W (fun vs _ W' => ∀ ws, RHs T W' vs ws → Q ws W'.H) (psi T σ Z) (evEs P call es s g)
end
section
variable {P : Pg} {call : CallT} {T : Tb} {Z : WX} {σ : L2.St} {W : Wd} {s : Sl} {g : G}
/-- an expression is run, the rest is a run of the evaluator -/
theorem cE_of {β : Type} {e : E} {f : AV → G → R β} {Φ : β → G → Wd → Prop} {Q : VK} (hS : RSt T W s σ) (hG : RG T W g) (d : DR T W Φ (psi T σ Z) ((evE P call e s g).bind f))
    (h : ∀ v g1 W1 w, LeE W W1 → RSt T W1 s σ → RG T W1 g1 → RH T W1 v w → DR T W1 Φ (psi T σ Z) (f v g1) → Q w W1.H) : cE P call T Z e σ W.H Q := by
  refine ⟨W, s, g, rfl, hS, hG, DR.imp (DR.bind d) (fun v g1 W1 l q x w rx => ?_) fun _ _ _ z => z⟩
  obtain ⟨W2, e2, l2, q2, rh⟩ := rx.hand q
  rw [← e2]
  exact h v g1 W2 w (l.trans l2) (hS.mono (l.trans l2)) q2 rh (x.mono l2)
/-- an operation of the evaluator, by values -/
def OpA (T : Tb) (f : G → AV → AV → Option AV) : R2 := fun x y H Q => ∃ W g a b c, W.H = H ∧ RG T W g ∧ RH T W a x ∧ RH T W b y ∧ f g a b = some c ∧ ∀ W' w, LeE W W' → RG T W' g → RX T W' c w → Q w W'.H
section
variable {X : Cx} {g : G}
end
/-! ### expressions -/
section
variable {P : Pg} {call : CallT} {T : Tb} {Z : WX} {X : Cx} {pos : Pos}
end
end
end Ev
end

section
set_option Elab.async false
set_option linter.all false
set_option maxRecDepth 100000
set_option maxHeartbeats 4000000
/-! Comparisons, truth, and, or, not. -/
namespace Ev
open PySem PySem.Spec PyProof.Rows L2
section
variable {T : Tb} {W : Wd}
end
/-- a comparison of the evaluator's -/
abbrev CpA (T : Tb) (f : G → AV → AV → Option Bool) : R2 := OpA T fun g x y => (f g x y).map .bl
section
variable {T : Tb} {X : Cx}
theorem RH.rv {T : Tb} {W : Wd} {x : AV} {v : V} (h : flatA x = true) (r : RH T W x v) : RV T W x v := by
  cases x <;> first | exact r | cases h
end
end Ev
end

section
set_option Elab.async false
set_option linter.all false
set_option maxRecDepth 100000
set_option maxHeartbeats 4000000
/-! Tests; and, or, not, if; comparisons as expressions; names, displays, arguments. -/
namespace Ev
open PySem PySem.Spec PyProof.Rows L2
section
variable {T : Tb} {W : Wd} {g : G}
theorem RH.x {x : AV} {v : V} (r : RH T W x v) : RX T W x.hand v := by
  cases x with
  | own xs => exact r
  | bor k xs => exact r
  | _ => exact r
theorem isEmpty_vs {xs : List AV} {vs : List V} (r : RVs T W xs vs) : (!xs.isEmpty) = !vs.isEmpty := by cases r <;> rfl
theorem RH.tru {K : PySem.W.Frag} (hK : K = T.K) {x : AV} {v : V} {k : Bool} (hG : RG T W g) (e : truA g x = some k) (r : RH T W x v) : TruV K v W.H k := by
  have list : ∀ xs, seqL g x = some xs → some (!xs.isEmpty) = some k → TruV K v W.H k := fun xs h1 h2 => by
    obtain ⟨a, vs, rfl, h, q⟩ := r.list hG h1
    exact .inl ⟨vs, .inl (.inl h), by rw [← isEmpty_vs q]; exact (Option.some.inj h2).symm⟩
  cases x with
  | non => cases r; cases e; rfl
  | bl b => cases r; cases e; rfl
  | int i =>
    cases r; cases e
    show decide (i ≠ 0) = (i != 0)
    simp [bne, Bool.beq_eq_decide_eq]
  | str s =>
    cases r
    simp only [truA] at e
    split at e
    · rename_i hl
      cases e
      refine ⟨hl, ?_⟩
      show decide (s.length ≠ 0) = ((s.length : Int) != 0)
      by_cases h : s.length = 0 <;> simp [h]
    · cases e
  | tup xs =>
    obtain ⟨a, vs, rfl, h, q⟩ := r.tuple rfl
    exact .inr (.inl ⟨vs, hK ▸ h, by rw [← isEmpty_vs q]; exact (Option.some.inj e).symm⟩)
  | lst xs => exact list xs rfl e
  | own xs => exact list xs rfl e
  | bor k xs => exact list xs rfl e
  | ref n =>
    simp only [truA] at e
    split at e
    · rename_i xs hx
      exact list xs (by simp only [seqL, hx]) e
    · cases e
  | _ => cases e
end
section
variable {P : Pg} {call : CallT} {T : Tb} {Z : WX} {X : Cx} {pos : Pos} {σ : L2.St} {W : Wd} {s : Sl} {g : G} {a b c : Expr} {ea eb ec : E}
theorem snd_truth (hK : X.K = T.K) (ha : PE X a (cE P call T Z ea)) (he : ∀ whole, isTrue a X.env whole = (do let v ← whole; standAt a.pos; holding [v] (truthy v))) : PT X a (cT P call T Z ea) := by
  refine ⟨fun pins s σ H Q I h => ?_⟩
  obtain ⟨W, sl, g, rfl, hS, hG, d⟩ := h
  refine (pt_truth ha he).run pins s σ _ Q I ?_
  refine cE_of hS hG d fun x g1 W1 w l1 hS1 hG1 rx d1 => ?_
  obtain ⟨k, e, q⟩ := DR.opt d1
  exact ⟨k, rx.tru hK hG1 e, q W1 (LeE.refl _) hG1⟩
/-! ### and, or, not, if -/
variable {rest : List Expr}
end
end Ev
end

section
set_option Elab.async false
set_option linter.all false
set_option maxRecDepth 100000
set_option maxHeartbeats 4000000
/-! Names, displays, arguments, items, slices. -/
namespace Ev
open PySem PySem.Spec PyProof.Rows L2
section
variable {T : Tb} {W : Wd} {g : G}
theorem RHs.length : ∀ {xs : List AV} {vs : List V}, RHs T W xs vs → xs.length = vs.length
  | _, _, .nil => rfl
  | _, _, .cons _ t => by simp [RHs.length t]
theorem RHs.mono {W' : Wd} (h : LeE W W') : ∀ {xs : List AV} {vs : List V}, RHs T W xs vs → RHs T W' xs vs
  | _, _, .nil => .nil
  | _, _, .cons r t => .cons (r.mono h) (RHs.mono h t)
theorem RHs.append : ∀ {xs ys : List AV} {vs ws : List V}, RHs T W xs vs → RHs T W ys ws → RHs T W (xs ++ ys) (vs ++ ws)
  | _, _, _, _, .nil, s => s
  | _, _, _, _, .cons r t, s => .cons r (RHs.append t s)
theorem RVs.hs : ∀ {xs : List AV} {vs : List V}, RVs T W xs vs → RHs T W xs vs
  | _, _, .nil => .nil
  | _, _, .cons r t => .cons r.hnd (RVs.hs t)
theorem RHs.args : ∀ {xs : List AV} {vs : List V}, RHs T W xs vs → RHs T W (xs.map AV.hand) vs
  | _, _, .nil => .nil
  | _, _, .cons r t => .cons r.args (RHs.args t)
theorem RHs.keep : ∀ {xs ys : List AV} {vs : List V}, RHs T W xs vs → xs.mapM AV.keep = some ys → RVs T W ys vs
  | [], ys, _, .nil, e => by simp at e; subst e; exact .nil
  | x :: xs, ys, _, .cons r t, e => by
    rw [List.mapM_cons] at e
    cases h1 : x.keep with
    | none => rw [h1] at e; cases e
    | some y =>
      rw [h1] at e
      cases h2 : xs.mapM AV.keep with
      | none => rw [h2] at e; cases e
      | some zs => rw [h2] at e; cases e; exact .cons (r.keep h1) (RHs.keep t h2)
theorem RHs.get : ∀ {xs : List AV} {vs : List V} {i : Nat} {x : AV}, RHs T W xs vs → xs[i]? = some x → ∃ v, vs[i]? = some v ∧ RH T W x v
  | _, _, _, _, .nil, e => by simp at e
  | _, _, 0, _, .cons r _, e => by simp at e; subst e; exact ⟨_, rfl, r⟩
  | _, _, i + 1, x, .cons _ t, e => by
    obtain ⟨v, h1, h2⟩ := RHs.get (i := i) (x := x) t (by simpa using e)
    exact ⟨v, by simpa using h1, h2⟩
theorem RS.look {i : Nat} {x : AV} {v : V} (r : RS T W i x v) : RX T W x.look v := by
  cases x with
  | own xs => obtain ⟨a, vs, e, h, o, q⟩ := r; exact ⟨a, vs, e, h, .inl ⟨rfl, i, o⟩, q⟩
  | bor k xs => obtain ⟨hk, a, vs, e, h, o, q⟩ := r; exact ⟨a, vs, e, h, .inr ⟨hk, o⟩, q⟩
  | _ => exact r
theorem RVs.atI {xs : List AV} {vs : List V} {i : Int} {x : AV} (r : RVs T W xs vs) (e : atI xs i = some x) : ∃ v, L2.atI vs i = some v ∧ RV T W x v := by
  unfold Ev.atI at e
  cases h : ixN xs.length i with
  | none => rw [h] at e; cases e
  | some j =>
    rw [h] at e
    obtain ⟨v, h1, h2⟩ := r.get (show xs[j]? = some x from e)
    refine ⟨v, ?_, h2⟩
    unfold L2.atI
    rw [← r.length]
    have h' : L2.ixN xs.length i = some j := h
    rw [h']; exact h1
theorem sIx_eq (n d : Nat) (o : Option Int) : sIx n d o = HT.sIx n d o := by cases o <;> rfl
theorem RVs.cut {xs : List AV} {vs : List V} (r : RVs T W xs vs) (lo hi : Option Int) : RVs T W (cut xs lo hi) (cutV vs lo hi) := by
  unfold Ev.cut cutV
  rw [← r.length, ← sIx_eq, ← sIx_eq]
  exact (r.drop _).take _
end
section
variable {P : Pg} {call : CallT} {T : Tb} {Z : WX} {X : Cx} {pos : Pos} {σ : L2.St} {W : Wd} {s : Sl} {g : G} {a b c e : Expr} {es : List Expr} {ea eb ec : E} {e' : E} {es' : Es}
/-! ### arguments, items -/
/-- a new list in the store -/
theorem RG.alloc {g : G} {p : Addr} {xs : List AV} {vs : List V} (hG : RG T W g) (hp : W.H p = none) (r : RVs T W xs vs) :
    ∃ W', W'.H = upd W.H p (.lst vs) ∧ LeE W W' ∧ RG T W' (g ++ [some (.lst xs)]) ∧ RV T W' (.ref g.length) (.ref p) := by
  have le : LeE W ⟨W.ρ ++ [p], fun b => if b = p then some (.cell g.length) else W.ow b, upd W.H p (.lst vs)⟩ := by
    refine ⟨fun n b e1 => ?_, fun b u e1 n => ?_, fun b n u e1 e2 => ?_⟩
    · show (W.ρ ++ [p])[n]? = some b
      rw [List.getElem?_append_left (List.getElem?_eq_some_iff.mp e1).1]; exact e1
    · have hb : b ≠ p := ne_of_none e1 hp
      exact ⟨by show upd W.H p _ b = _; rw [upd_ne hb]; exact e1, .inl (if_neg hb)⟩
    · have hb : b ≠ p := ne_of_none e1 hp
      exact ⟨(if_neg hb).trans e2, u, by show upd W.H p _ b = _; rw [upd_ne hb]; exact e1⟩
  refine ⟨_, rfl, le, ⟨by simp [hG.len], fun n c e1 => ?_⟩, .ref (by show (W.ρ ++ [p])[g.length]? = _; rw [← hG.len, List.getElem?_append_right (Nat.le_refl _)]; simp)⟩
  by_cases hn : n < g.length
  · rw [List.getElem?_append_left hn] at e1
    obtain ⟨b, h1, h2, h3⟩ := hG.at_ n c e1
    obtain ⟨u, hu⟩ := h3.there
    have hb : b ≠ p := ne_of_none hu hp
    exact ⟨b, le.pre n b h1, (if_neg hb : _ = W.ow b).trans h2, h3.mono le.le fun v z => by show upd W.H p _ b = _; rw [upd_ne hb]; exact z⟩
  · have hn' : n = g.length := by
      have := (List.getElem?_eq_some_iff.mp e1).1
      simp at this; omega
    subst hn'
    rw [List.getElem?_append_right (Nat.le_refl _)] at e1
    simp at e1; subst e1
    exact ⟨p, by show (W.ρ ++ [p])[g.length]? = _; rw [← hG.len, List.getElem?_append_right (Nat.le_refl _)]; simp, if_pos rfl, vs, upd_same, r.mono le.le⟩
/-! ### places, slices -/
/-- a slice's part -/
def cO (P : Pg) (call : CallT) (T : Tb) (Z : WX) (e : Eo) : TO := fun σ H Q => ∃ W s g, W.H = H ∧ RSt T W s σ ∧ RG T W g ∧ DR T W (fun o _ W' => Q o W'.H) (psi T σ Z) (evEo P call e s g)
end
end Ev
end

section
set_option Elab.async false
set_option linter.all false
set_option maxRecDepth 100000
set_option maxHeartbeats 4000000
/-! Built-in calls. -/
namespace Ev
open PySem PySem.Spec PyProof.Rows L2
/-! ### the greatest and the least of a tuple, its sum -/
section
variable {prog : Program} {w : World} {A : Around} {E : Value → Shared → Prop} {s : Shared} {t : Addr}
end
/-- a built-in call of the evaluator's -/
def CfA (T : Tb) (b : Bf) : List V → Hp → VK → Prop := fun xs H Q => ∃ W g as c, W.H = H ∧ RG T W g ∧ RHs T W as xs ∧ bfA g b as = some c ∧ ∀ W' w, LeE W W' → RG T W' g → RX T W' c w → Q w W'.H
section
variable {T : Tb} {X : Cx} {W : Wd} {g : G}
theorem RHs.one {x : AV} {vs : List V} (r : RHs T W [x] vs) : ∃ v, vs = [v] ∧ RH T W x v := by
  cases r with
  | cons h t => cases t; exact ⟨_, rfl, h⟩
theorem RHs.two {x y : AV} {vs : List V} (r : RHs T W [x, y] vs) : ∃ v w, vs = [v, w] ∧ RH T W x v ∧ RH T W y w := by
  cases r with
  | cons h t =>
    obtain ⟨w, rfl, k⟩ := t.one
    exact ⟨_, _, rfl, h, k⟩
theorem all_flat : ∀ bs : List Bool, (bs.all id) = bs.all id := fun _ => rfl
end
end Ev
end

section
set_option Elab.async false
set_option linter.all false
set_option maxRecDepth 100000
set_option maxHeartbeats 4000000
/-! What is walked: enumerate, zip over lists and tuples. -/
namespace Ev
open PySem PySem.Spec PyProof.Rows L2
def SqK (K : PySem.W.Frag) (b : Bool) (H : Hp) (a : Addr) (xs : List V) : Prop := match b with
  | true => SqT K H a xs
  | false => SqL K H a xs
def IsK (b : Bool) (h : Heap) (a : Addr) (its : Array Value) : Prop := match b with
  | true => h.IsTuple a its
  | false => h.IsList a its
def ItK (b : Bool) (h : Heap) (it a : Addr) (i : Nat) : Prop := match b with
  | true => h.IsTupleIter it a i
  | false => h.IsListIter it a i
def obK (b : Bool) (a : Addr) : Obj := match b with
  | true => { cls := .type "tuple_iterator", data := .fields #[.ref a, .int 0 0] }
  | false => { cls := .type "list_iterator", data := .fields #[.ref a, .int 0 0] }
section
variable {X : Cx} {pins : List (Addr × Obj)} {σ : L2.St} {H : Hp} {s : Shared} {a it : Addr} {b : Bool} {xs ys : List V} {i : Nat} {h h' : Heap}
theorem ItK.at (p : ItK b h it a i) (k : ∀ o, h.get? it = some o → h'.get? it = some o) : ItK b h' it a i := by
  cases b with
  | true => exact Heap.IsTupleIter.at p k
  | false => exact Heap.IsListIter.at p k
theorem ItK.new (p : h.get? it = some (obK b a)) : ItK b h it a 0 := by
  cases b with
  | true => exact ⟨_, p, rfl, rfl⟩
  | false => exact ⟨_, p, rfl, rfl⟩
end
/-! ### enumerate -/
def IteK (K : PySem.W.Frag) (b : Bool) (a : Addr) : L2.It :=
  ⟨fun i H => ∃ (xs : List V) (x : V), SqK K b H a xs ∧ xs[i]? = some x, fun i H v H' => ∃ T x, v = .ref T ∧ H T = none ∧ H' = upd H T (.tup [.int (i : Nat), x]) ∧ ∀ xs, SqK K b H a xs → xs[i]? = some x, fun i H => ∃ xs : List V, SqK K b H a xs ∧ xs.length = i⟩
section
variable {prog : Program} {w : World} {A : Around} {E : Value → Shared → Prop} {s : Shared}
end
def iEnumK (K : PySem.W.Frag) (te : TE) : TI := fun σ H R => te σ H fun v H1 => ∃ a xs b, v = .ref a ∧ SqK K b H1 a xs ∧ R (IteK K b a) H1
/-! ### zip -/
def ItzK (K : PySem.W.Frag) (b b' : Bool) (a a' : Addr) : L2.It :=
  ⟨fun i H => ∃ (xs ys : List V) (x y : V), SqK K b H a xs ∧ SqK K b' H a' ys ∧ xs[i]? = some x ∧ ys[i]? = some y,
    fun i H v H' => ∃ T x y, v = .ref T ∧ H T = none ∧ H' = upd H T (.tup [x, y]) ∧ (∀ xs, SqK K b H a xs → xs[i]? = some x) ∧ ∀ ys, SqK K b' H a' ys → ys[i]? = some y,
    fun i H => ∃ xs ys : List V, SqK K b H a xs ∧ SqK K b' H a' ys ∧ i = min xs.length ys.length⟩
def iZipK (K : PySem.W.Frag) (ta : TA) : TI := fun σ H R => ta σ H fun vs H1 => ∃ a a' xs ys b b', vs = [.ref a, .ref a'] ∧ SqK K b H1 a xs ∧ SqK K b' H1 a' ys ∧ R (ItzK K b b' a a') H1
end Ev
end

section
set_option Elab.async false
set_option linter.all false
set_option maxRecDepth 100000
set_option maxHeartbeats 4000000
/-! What is walked, by the evaluator's values; targets. -/
namespace Ev
open PySem PySem.Spec PyProof.Rows L2
/-- through statements: what is nobody's or comes from outside stays; a cell stays a cell -/
structure LeS (W W' : Wd) : Prop where
  pre : ∀ (n : Nat) (a : Addr), W.ρ[n]? = some a → W'.ρ[n]? = some a
  keep : ∀ (a : Addr) (o : HO), W.H a = some o → (W.ow a = none ∨ W.ow a = some .out) → W'.H a = some o ∧ W'.ow a = W.ow a
  cel : ∀ (a : Addr) (n : Nat) (o : HO), W.H a = some o → W.ow a = some (.cell n) → W'.ow a = some (.cell n) ∧ ∃ o', W'.H a = some o'
theorem LeS.le {W W' : Wd} (h : LeS W W') : Le W W' := ⟨h.pre, fun a o e n => let ⟨e1, n1⟩ := h.keep a o e (.inl n); ⟨e1, n1.trans n⟩⟩
theorem LeS.refl (W : Wd) : LeS W W := ⟨fun _ _ h => h, fun _ _ h _ => ⟨h, rfl⟩, fun _ _ o h e => ⟨e, o, h⟩⟩
theorem LeS.trans {A B C : Wd} (h : LeS A B) (k : LeS B C) : LeS A C where
  pre := fun n a e => k.pre n a (h.pre n a e)
  keep := fun a o e n => by
    obtain ⟨e1, o1⟩ := h.keep a o e n
    obtain ⟨e2, o2⟩ := k.keep a o e1 (by rw [o1]; exact n)
    exact ⟨e2, o2.trans o1⟩
  cel := fun a n o e c => by
    obtain ⟨c1, o1, e1⟩ := h.cel a n o e c
    exact k.cel a n o1 e1 c1
theorem LeE.s {W W' : Wd} (h : LeE W W') : LeS W W' where
  pre := h.pre
  keep := fun a o e n => by
    obtain ⟨e1, k | ⟨k, _⟩⟩ := h.keep a o e (by rcases n with n | n <;> (rw [n]; intro _ z; cases z))
    · exact ⟨e1, k⟩
    · rcases n with n | n <;> (rw [n] at k; cases k)
  cel := h.cel
/-- through a comprehension's turns: what is nobody's, a slot's or from outside stays -/
structure LeG (W W' : Wd) : Prop where
  pre : ∀ (n : Nat) (a : Addr), W.ρ[n]? = some a → W'.ρ[n]? = some a
  keep : ∀ (a : Addr) (o : HO), W.H a = some o → (W.ow a = none ∨ W.ow a = some .out ∨ ∃ i, W.ow a = some (.slot i)) → W'.H a = some o ∧ W'.ow a = W.ow a
theorem LeG.le {W W' : Wd} (h : LeG W W') : Le W W' := ⟨h.pre, fun a o e n => let ⟨e1, n1⟩ := h.keep a o e (.inl n); ⟨e1, n1.trans n⟩⟩
theorem LeG.refl (W : Wd) : LeG W W := ⟨fun _ _ h => h, fun _ _ h _ => ⟨h, rfl⟩⟩
theorem LeG.trans {A B C : Wd} (h : LeG A B) (k : LeG B C) : LeG A C where
  pre := fun n a e => k.pre n a (h.pre n a e)
  keep := fun a o e n => by
    obtain ⟨e1, o1⟩ := h.keep a o e n
    obtain ⟨e2, o2⟩ := k.keep a o e1 (by rw [o1]; exact n)
    exact ⟨e2, o2.trans o1⟩
theorem LeE.g {W W' : Wd} (h : LeE W W') : LeG W W' where
  pre := h.pre
  keep := fun a o e n => by
    obtain ⟨e1, k | ⟨k, _⟩⟩ := h.keep a o e (by rcases n with n | n | ⟨i, n⟩ <;> (rw [n]; intro _ z; cases z))
    · exact ⟨e1, k⟩
    · rcases n with n | n | ⟨i, n⟩ <;> (rw [n] at k; cases k)
def LX (st : Bool) (W W' : Wd) : Prop := match st with
  | true => LeS W W'
  | false => LeG W W'
theorem LX.le {st : Bool} {W W' : Wd} (h : LX st W W') : Le W W' := by
  cases st
  · exact LeG.le h
  · exact LeS.le h
theorem LX.trans {st : Bool} {A B C : Wd} (h : LX st A B) (k : LX st B C) : LX st A C := by
  cases st
  · exact LeG.trans h k
  · exact LeS.trans h k
theorem LX.refl {st : Bool} (W : Wd) : LX st W W := by
  cases st
  · exact LeG.refl W
  · exact LeS.refl W
theorem LeE.x {st : Bool} {W W' : Wd} (h : LeE W W') : LX st W W' := by
  cases st
  · exact h.g
  · exact h.s
/-- an iterator that serves such items -/
structure Sv (T : Tb) (st : Bool) (W : Wd) (J : L2.It) (xs : List AV) : Prop where
  stop : ∀ W', LX st W W' → J.stop xs.length W'.H
  go : ∀ W', LX st W W' → ∀ i x, xs[i]? = some x → J.go i W'.H
  yld : ∀ W', LX st W W' → ∀ i x, xs[i]? = some x → ∀ v H', J.yld i W'.H v H' → ∃ W'', W''.H = H' ∧ LeE W' W'' ∧ (∀ g, RG T W' g → RG T W'' g) ∧ RV T W'' x v
theorem Sv.mono {T : Tb} {st : Bool} {W W1 : Wd} {J : L2.It} {xs : List AV} (h : Sv T st W J xs) (l : LX st W W1) : Sv T st W1 J xs :=
  ⟨fun W' k => h.stop W' (l.trans k), fun W' k => h.go W' (l.trans k), fun W' k => h.yld W' (l.trans k)⟩
/-- a source that stays -/
def Src (T : Tb) (st : Bool) (W : Wd) (xs : List AV) (w : V) : Prop := ∃ a vs b, w = .ref a ∧ RVs T W xs vs ∧ ∀ W', LX st W W' → SqK T.K b W'.H a vs
theorem SqK.to {K : PySem.W.Frag} {b : Bool} {H H' : Hp} {a : Addr} {vs : List V} (q : SqK K b H a vs) (k : ∀ o, H a = some o → H' a = some o) : SqK K b H' a vs := by
  cases b with
  | true =>
    rcases q with (q | ⟨u, q⟩) | q
    · exact .inl (.inl (k _ q))
    · exact .inl (.inr ⟨u, k _ q⟩)
    · exact .inr q
  | false =>
    rcases q with (q | ⟨u, q⟩) | q
    · exact .inl (.inl (k _ q))
    · exact .inl (.inr ⟨u, k _ q⟩)
    · exact .inr q
section
variable {T : Tb} {st : Bool} {W W1 : Wd} {xs : List AV} {w : V} {g : G}
theorem Src.mono (h : Src T st W xs w) (l : LX st W W1) : Src T st W1 xs w := by
  obtain ⟨a, vs, b, e, r, k⟩ := h
  exact ⟨a, vs, b, e, r.mono l.le, fun W' l' => k W' (l.trans l')⟩
/-! ### the iterators -/
def itK (K : PySem.W.Frag) (b : Bool) (a : Addr) : L2.It := match b with
  | true => Itt K a
  | false => Itl K a
theorem RV.pair {p : Addr} {x y : AV} {v u : V} (h : W.H p = none) (r : RV T W x v) (r' : RV T W y u) : RV T (W.new p (.tup [v, u]) none) (.tup [x, y]) (.ref p) := RV.new h (.cons r (.cons r' .nil))
end
/-! ### the sources' readings -/
/-- a list or a tuple, walked -/
def iSeqK (K : PySem.W.Frag) (te : TE) : TI := fun σ H R => te σ H fun x H1 => ∃ a b xs, x = .ref a ∧ SqK K b H1 a xs ∧ R (itK K b a) H1
section
variable (P : Pg) (call : CallT) (T : Tb) (Z : WX)
def cI (st : Bool) (it : It) : TI := fun σ H R => ∃ W s g, W.H = H ∧ RSt T W s σ ∧ RG T W g ∧ DR T W (fun xs _ W' => ∀ J, Sv T st W' J xs → R J W'.H) (psi T σ Z) (evIt P call st it s g)
end
section
variable {P : Pg} {call : CallT} {T : Tb} {Z : WX} {X : Cx} {st : Bool} {σ : L2.St} {W : Wd} {s : Sl} {g : G} {a b : Expr} {ea eb : E} {tg : Expr} {p pos tpos : Pos} {elts : List Expr} {kk : Nat}
end
/-! ### targets -/
/-- a target's reading -/
def cG (T : Tb) (t : Tg) : TG := fun v σ H Q => ∃ W s g x s', W.H = H ∧ RSt T W s σ ∧ RG T W g ∧ RX T W x v ∧ tgA t x s = some s' ∧
  ∀ W' σ', W'.H = H → LeE W W' → RG T W' g → RSt T W' s' σ' → σ'.length = σ.length → (∀ j, j ∉ tgI t → σ'[j]? = σ[j]?) → Q σ' H
def cGs (T : Tb) (ts : List Tg) : TGs := fun vs σ H Q => ∃ W s g xs s', W.H = H ∧ RSt T W s σ ∧ RG T W g ∧ RVs T W xs vs ∧ tgA.tgAs ts xs s = some s' ∧
  ∀ W' σ', W'.H = H → LeE W W' → RG T W' g → RSt T W' s' σ' → σ'.length = σ.length → (∀ j, j ∉ tgI.tgIs ts → σ'[j]? = σ[j]?) → Q σ' H
section
variable {T : Tb} {X : Cx} {W : Wd} {s : Sl} {σ : L2.St} {g : G}
theorem RSt.set {i : Nat} {x : AV} {v : V} (r : RSt T W s σ) (h : RS T W i x v) : RSt T W (s.set i (some x)) (σ.set i (some v)) := by
  refine ⟨by simp [r.len], fun j y e => ?_⟩
  by_cases hj : i = j
  · subst hj
    by_cases hl : i < s.length
    · rw [List.getElem?_set_self hl] at e
      cases e
      refine ⟨v, ?_, h⟩
      rw [List.getElem?_set_self (by rw [← r.len]; exact hl)]
    · rw [List.getElem?_eq_none (by simp; omega)] at e; cases e
  · rw [List.getElem?_set_ne hj] at e ⊢
    exact r.at_ j y e
theorem RV.sl {i : Nat} {x : AV} {v : V} (r : RV T W x v) : RS T W i x v := by
  cases r <;> first
    | exact .non
    | exact .bl _
    | exact .int _
    | exact .str _
    | exact .tup ‹_› ‹_› ‹_›
    | exact .tupK ‹_› ‹_›
    | exact .scrK ‹_› ‹_›
    | exact .scr ‹_› ‹_› ‹_›
    | exact .lst ‹_› ‹_› ‹_›
    | exact .ins ‹_› ‹_› ‹_› ‹_›
    | exact .ref ‹_›
    | exact .fn _
    | exact .cls _
/-- a value put into a slot -/
theorem RX.put {i : Nat} {k : Bool} {x y : AV} {v : V} (r : RX T W x v) (hS : RSt T W s σ) (hG : RG T W g) (e : x.put k = some y) :
    ∃ W', W'.H = W.H ∧ LeE W W' ∧ RG T W' g ∧ RSt T W' (s.set i (some y)) (σ.set i (some v)) := by
  cases x with
  | own xs =>
    obtain ⟨a, vs, rfl, h, o, q⟩ := r
    simp only [AV.put, Option.some.injEq] at e
    cases k with
    | true =>
      subst e
      have ho : ∀ n, (some (Own.slot i) : Option Own) ≠ some (.cell n) := fun _ z => by cases z
      have le := LeE.tag (W := W) o ho
      exact ⟨W.tag a (some (.slot i)), rfl, le, hG.tag o ho, (hS.mono le).set ⟨a, vs, rfl, h, Wd.tag_same, q.mono le.le⟩⟩
    | false =>
      subst e
      have ho : ∀ n, (none : Option Own) ≠ some (.cell n) := fun _ z => by cases z
      have le := LeE.tag (W := W) o ho
      exact ⟨W.tag a none, rfl, le, hG.tag o ho, (hS.mono le).set (RV.sl (.lst h Wd.tag_same (q.mono le.le)))⟩
  | bor k' xs => cases e
  | _ => cases e; exact ⟨W, rfl, LeE.refl _, hG, hS.set (RV.sl r)⟩
end
end Ev
end

section
set_option Elab.async false
set_option linter.all false
set_option maxRecDepth 100000
set_option maxHeartbeats 4000000
/-! Comprehensions. -/
namespace Ev
open PySem PySem.Spec PyProof.Rows L2
section
variable {T : Tb} {W W0 W' : Wd} {s : Sl} {σ : L2.St} {g : G} {D : Addr} {acc : List AV}
theorem Le.set {u : HO} {o : Option Own} (n : W.ow D ≠ none) : Le W (W.new D u o) := ⟨fun _ _ e => e, fun a v e na => by
  have hb : a ≠ D := fun z => n (z ▸ na)
  exact ⟨by show upd W.H D u a = _; rw [upd_ne hb]; exact e, (if_neg hb : (W.new D u o).ow a = W.ow a).trans na⟩⟩
theorem LeE.set {u : HO} {o : Option Own} (h : LeE W0 W) (n : W0.H D = none) : LeE W0 (W.new D u o) where
  pre := h.pre
  keep := fun b v e c => by
    have hb : b ≠ D := ne_of_none e n
    obtain ⟨e1, k⟩ := h.keep b v e c
    have eo : (W.new D u o).ow b = W.ow b := if_neg hb
    exact ⟨by show upd W.H D u b = _; rw [upd_ne hb]; exact e1, by rw [eo]; exact k⟩
  cel := fun b m v e c => by
    have hb : b ≠ D := ne_of_none e n
    obtain ⟨e1, v', k⟩ := h.cel b m v e c
    exact ⟨(if_neg hb : (W.new D u o).ow b = W.ow b).trans e1, v', by show upd W.H D u b = _; rw [upd_ne hb]; exact k⟩
theorem RG.set {u : HO} {o : Option Own} (r : RG T W g) (n : W.ow D = some .grow) : RG T (W.new D u o) g := by
  have le : Le W (W.new D u o) := Le.set (by rw [n]; intro z; cases z)
  refine ⟨r.len, fun m c e => ?_⟩
  obtain ⟨b, e1, e2, e3⟩ := r.at_ m c e
  have hb : b ≠ D := fun z => by rw [z, n] at e2; cases e2
  exact ⟨b, e1, (if_neg hb : (W.new D u o).ow b = W.ow b).trans e2, e3.mono le fun v z => by show upd W.H D u b = _; rw [upd_ne hb]; exact z⟩
/-- a list of ours becomes a cell -/
theorem RG.cellify {vs : List V} (hG : RG T W g) (n : W.ow D = some .grow) (hD : W.H D = some (.lst vs)) (r : RVs T W acc vs) (h0 : W0.H D = none) (l0 : LeE W0 W) :
    ∃ W', W'.H = W.H ∧ LeE W0 W' ∧ RG T W' (g ++ [some (.lst acc)]) ∧ RV T W' (.ref g.length) (.ref D) := by
  have le : Le W ⟨W.ρ ++ [D], fun b => if b = D then some (.cell g.length) else W.ow b, W.H⟩ := ⟨fun m b e1 => by
      show (W.ρ ++ [D])[m]? = some b
      rw [List.getElem?_append_left (List.getElem?_eq_some_iff.mp e1).1]; exact e1, fun a v e na => by
      have hb : a ≠ D := fun z => by rw [z, n] at na; cases na
      exact ⟨e, (if_neg hb).trans na⟩⟩
  refine ⟨⟨W.ρ ++ [D], fun b => if b = D then some (.cell g.length) else W.ow b, W.H⟩, rfl, ⟨fun m b e1 => le.pre m b (l0.pre m b e1), fun b v e c => ?_, fun b m v e c => ?_⟩, ⟨by simp [hG.len], fun m c e1 => ?_⟩, .ref (by show (W.ρ ++ [D])[g.length]? = _; rw [← hG.len, List.getElem?_append_right (Nat.le_refl _)]; simp)⟩
  · have hb : b ≠ D := ne_of_none e h0
    obtain ⟨e1, k⟩ := l0.keep b v e c
    refine ⟨e1, ?_⟩
    show (if b = D then _ else W.ow b) = W0.ow b ∨ W0.ow b = some .tmp ∧ ∀ m, (if b = D then _ else W.ow b) ≠ some (.cell m)
    rw [if_neg hb]; exact k
  · have hb : b ≠ D := ne_of_none e h0
    obtain ⟨e1, k⟩ := l0.cel b m v e c
    exact ⟨(if_neg hb).trans e1, k⟩
  · by_cases hn : m < g.length
    · rw [List.getElem?_append_left hn] at e1
      obtain ⟨b, h1, h2, h3⟩ := hG.at_ m c e1
      have hb : b ≠ D := fun z => by rw [z, n] at h2; cases h2
      exact ⟨b, le.pre m b h1, (if_neg hb : _ = W.ow b).trans h2, h3.mono le fun v z => z⟩
    · have hn' : m = g.length := by
        have := (List.getElem?_eq_some_iff.mp e1).1
        simp at this; omega
      subst hn'
      rw [List.getElem?_append_right (Nat.le_refl _)] at e1
      simp at e1; subst e1
      exact ⟨D, by show (W.ρ ++ [D])[g.length]? = _; rw [← hG.len, List.getElem?_append_right (Nat.le_refl _)]; simp, if_pos rfl, vs, hD, r.mono le⟩
/-- a list that grows at D -/
structure Gr (T : Tb) (W0 : Wd) (D : Addr) (acc : List AV) (g : G) (W : Wd) : Prop where
  le : LeE W0 W
  rg : RG T W g
  ow : W.ow D = some .grow
  hd : ∃ vs, W.H D = some (.lst vs) ∧ RVs T W acc vs
theorem Gr.mono {g' : G} (h : Gr T W0 D acc g W) (l : LeE W W') (q : RG T W' g') : Gr T W0 D acc g' W' := by
  obtain ⟨vs, e, r⟩ := h.hd
  obtain ⟨e1, k | ⟨k, _⟩⟩ := l.keep D _ e (by rw [h.ow]; intro _ z; cases z)
  · exact ⟨h.le.trans l, q, k.trans h.ow, vs, e1, r.mono l.le⟩
  · rw [h.ow] at k; cases k
theorem Gr.start (hG : RG T W0 g) (n : W0.H D = none) : Gr T W0 D [] g (W0.new D (.lst []) (some .grow)) :=
  ⟨LeE.new n, hG.new n, Wd.new_ow, [], Wd.new_at, .nil⟩
theorem Gr.add {v : AV} {y : V} (h : Gr T W0 D acc g W) (n : W0.H D = none) (r : RV T W v y) : ∃ vs, W.H D = some (.lst vs) ∧ vs.length = acc.length ∧ Gr T W0 D (acc ++ [v]) g (W.new D (.lst (vs ++ [y])) (some .grow)) := by
  obtain ⟨vs, e, q⟩ := h.hd
  have le : Le W (W.new D (.lst (vs ++ [y])) (some .grow)) := Le.set (by rw [h.ow]; intro z; cases z)
  exact ⟨vs, e, q.length.symm, h.le.set n, h.rg.set h.ow, Wd.new_ow, vs ++ [y], Wd.new_at, (q.append (.cons r .nil)).mono le⟩
theorem Gr.stop {Q : VK} {Ψ : Ex → G → Wd → Prop} {cell : Bool} (h : Gr T W0 D acc g W) (n : W0.H D = none) (d : DR T W0 (fun v _ W' => ∀ w, RX T W' v w → Q w W'.H) Ψ (mkL cell acc g)) : Q (.ref D) W.H := by
  obtain ⟨vs, e, q⟩ := h.hd
  unfold mkL at d
  split at d
  · cases cell with
    | false =>
      have le : Le W (W.new D (.lst vs) (some .tmp)) := Le.set (by rw [h.ow]; intro z; cases z)
      have eH : (W.new D (.lst vs) (some .tmp)).H = W.H := by
        funext b
        by_cases hb : b = D
        · subst hb; exact Wd.new_at.trans e.symm
        · show upd W.H D _ b = _; rw [upd_ne hb]
      have := d (W.new D (.lst vs) (some .tmp)) (h.le.set n) (h.rg.set h.ow) (.ref D) ⟨D, vs, rfl, Wd.new_at, Wd.new_ow, q.mono le⟩
      rw [eH] at this; exact this
    | true =>
      obtain ⟨W', e1, l1, q1, r1⟩ := h.rg.cellify h.ow e q n h.le
      have := d W' l1 q1 (.ref D) r1.x
      rw [e1] at this; exact this
  · exact d.elim
/-! ### slots forgotten -/
/-! ### evaluations that come to a value -/
section
variable {P : Pg} {call : CallT} {Z : WX} {e : E} {cs : Es} {v : AV} {t : Bool} {g1 : G}
/-- a clause's tests -/
def cCs (P : Pg) (call : CallT) (T : Tb) (Z : WX) (cs : Es) : TT := fun σ H Q => ∃ W s g, W.H = H ∧ RSt T W s σ ∧ RG T W g ∧ DR T W (fun b _ W' => Q b W'.H) (psi T σ Z) (evCs P call cs s g)
end
/-! ### the items -/
/-- one item of a comprehension of one clause -/
def stepC (P : Pg) (call : CallT) (t : Tg) (cs : Es) (e : E) (σ : Sl) (x : AV) (g2 : G) : Ev.R (List AV) := (R.opt (tgA t x (wipeA σ (tgI t))) g2).bind fun σ1 g3 =>
      (evCs P call cs σ1 g3).nox.bind fun ok g4 => if ok then (evE P call e σ1 g4).nox.bind fun v g5 => R.opt (v.keep.map fun v => [v]) g5 else .ok [] g4
variable {P : Pg} {call : CallT} {Z : WX}
theorem Gr.adds {v : AV} {y : V} (h : Gr T W0 D acc g W) (n : W0.H D = none) (r : RV T W v y) : ∃ vs, W.H D = some (.lst vs) ∧ vs.length = acc.length ∧ Gr T W0 D (acc ++ [v]) g (W.new D (.lst (vs ++ [y])) (some .grow)) ∧ LeG W (W.new D (.lst (vs ++ [y])) (some .grow)) := by
  obtain ⟨vs, e, q, gr⟩ := h.add n r
  refine ⟨vs, e, q, gr, fun _ _ e => e, fun a v e na => ?_⟩
  have hb : a ≠ D := fun z => by subst z; rw [h.ow] at na; rcases na with na | na | ⟨i, na⟩ <;> cases na
  exact ⟨by show upd W.H D _ a = _; rw [upd_ne hb]; exact e, if_neg hb⟩
/-- one item of the first clause of two -/
def stepD (P : Pg) (call : CallT) (t : Tg) (cs : Es) (t' : Tg) (it' : It) (cs' : Es) (e : E) (σ : Sl) (x : AV) (g2 : G) : Ev.R (List AV) := (R.opt (tgA t x (wipeA σ (tgI t ++ tgI t'))) g2).bind fun σ1 g3 =>
      (evCs P call cs σ1 g3).nox.bind fun ok g4 => if ok then (evIt P call false it' σ1 g4).nox.bind fun ys g5 => compL (stepC P call t' cs' e σ1) ys g5 else .ok [] g4
end
end Ev
end

section
set_option Elab.async false
set_option linter.all false
set_option maxRecDepth 100000
set_option maxHeartbeats 4000000
/-! Calls of defs. -/
namespace Ev
open PySem PySem.Spec PyProof.Rows L2
/-! ### arguments as they are written -/
def starred : Expr → Bool
  | .Starred _ _ => true
  | _ => false
def Es.plain : Es → Bool
  | .nil => true
  | .cons st _ es => !st && Es.plain es
def Es.len : Es → Nat
  | .nil => 0
  | .cons _ _ es => Es.len es + 1
section
variable {P : Pg} {call : CallT} {T : Tb} {Z : WX} {X : Cx} {pos : Pos} {σ : L2.St} {W : Wd} {s : Sl} {g : G}
end
/-! ### the callee's world -/
def dnO : Option Own → Option Own
  | none => none
  | some (.cell n) => some (.cell n)
  | some _ => some .out
/-- as a callee sees it -/
def Wd.dn (W : Wd) : Wd := ⟨W.ρ, fun a => dnO (W.ow a), W.H⟩
/-- as the caller sees it behind the call -/
def Wd.up (W W' : Wd) : Wd := ⟨W'.ρ, fun a => match W.H a, W.ow a with
  | some _, some (.slot i) => some (.slot i)
  | some _, some .tmp => some .tmp
  | some _, some .grow => some .grow
  | _, _ => W'.ow a, W'.H⟩
/-- an argument -/
def RA (T : Tb) (W : Wd) : AV → V → Prop
  | .own _, _ => False
  | .bor k xs, v => k = true ∧ ∃ a vs, v = .ref a ∧ W.H a = some (.lst vs) ∧ W.ow a = some .out ∧ RVs T W xs vs
  | x, v => RV T W x v
inductive RAs (T : Tb) (W : Wd) : List AV → List V → Prop where
  | nil : RAs T W [] []
  | cons {x : AV} {v : V} {xs : List AV} {vs : List V} (h : RA T W x v) (t : RAs T W xs vs) : RAs T W (x :: xs) (v :: vs)
/-- through a callee: what its start holds stays -/
def DS (T : Tb) (W : Wd) {α : Type} (Φ : α → G → Wd → Prop) (Ψ : Ex → G → Wd → Prop) : R α → Prop
  | .ok a g => ∀ W', LeS W W' → RG T W' g → Φ a g W'
  | .ex e g => ∀ W', LeS W W' → RG T W' g → Ψ e g W'
  | .no => False
/-- what a def promises: what the evaluator's call comes to -/
def spOf (T : Tb) (call : CallT) (f : Nat) : Sp := fun vs H Q E => ∃ W g as, W.H = H ∧ RG T W g ∧ RAs T W as vs ∧ DS T W (fun v _ W' => ∀ w, RX T W' v w → Q w W'.H) (fun e _ W' => ∀ cls d, XW T W' e cls d → E cls d W'.H) (callB call f as g)
section
variable {T : Tb} {W W' : Wd} {g : G}
theorem Wd.dn_le : Le W W.dn := ⟨fun _ _ e => e, fun a o e n => ⟨e, by show dnO (W.ow a) = none; rw [n]; rfl⟩⟩
theorem RG.dn (r : RG T W g) : RG T W.dn g := by
  refine ⟨r.len, fun n c e => ?_⟩
  obtain ⟨a, h1, h2, h3⟩ := r.at_ n c e
  exact ⟨a, h1, by show dnO (W.ow a) = _; rw [h2]; rfl, h3.mono Wd.dn_le fun _ z => z⟩
theorem RV.ra {x : AV} {v : V} (r : RV T W x v) : RA T W x v := by
  cases r <;> first
    | exact .non
    | exact .bl _
    | exact .int _
    | exact .str _
    | exact .tup ‹_› ‹_› ‹_›
    | exact .tupK ‹_› ‹_›
    | exact .scrK ‹_› ‹_›
    | exact .scr ‹_› ‹_› ‹_›
    | exact .lst ‹_› ‹_› ‹_›
    | exact .ins ‹_› ‹_› ‹_› ‹_›
    | exact .ref ‹_›
    | exact .fn _
    | exact .cls _
theorem RH.arg {x : AV} {v : V} (r : RH T W x v) : RA T W.dn x.arg v := by
  cases x with
  | own xs => exact RV.mono (W := W) Wd.dn_le (x := .lst xs) r
  | bor k xs =>
    obtain ⟨a, vs, rfl, h, o, q⟩ := r
    refine ⟨rfl, a, vs, rfl, h, ?_, q.mono Wd.dn_le⟩
    show dnO (W.ow a) = some .out
    rcases o with ⟨_, i, o⟩ | ⟨_, o⟩ <;> rw [o] <;> rfl
  | _ => exact RV.mono Wd.dn_le r
theorem RHs.arg : ∀ {xs : List AV} {vs : List V}, RHs T W xs vs → RAs T W.dn (xs.map AV.arg) vs
  | _, _, .nil => .nil
  | _, _, .cons r t => .cons r.arg (RHs.arg t)
theorem RAs.append : ∀ {xs ys : List AV} {vs ws : List V}, RAs T W xs vs → RAs T W ys ws → RAs T W (xs ++ ys) (vs ++ ws)
  | _, _, _, _, .nil, s => s
  | _, _, _, _, .cons r t, s => .cons r (RAs.append t s)
theorem RAs.length : ∀ {xs : List AV} {vs : List V}, RAs T W xs vs → xs.length = vs.length
  | _, _, .nil => rfl
  | _, _, .cons _ t => by simp [RAs.length t]
/-- what a callee leaves of the caller's things -/
theorem up_spec (l : LeS W.dn W') {a : Addr} {u : HO} (h : W.H a = some u) :
    (W'.H a = some u ∧ W'.ow a = some .out ∧ (W.up W').ow a = W.ow a ∧ (∀ n, W.ow a ≠ some (.cell n)) ∧ W.ow a ≠ none) ∨ (W'.H a = some u ∧ W'.ow a = none ∧ W.ow a = none ∧ (W.up W').ow a = none) ∨
      (∃ n u', W.ow a = some (.cell n) ∧ W'.ow a = some (.cell n) ∧ (W.up W').ow a = some (.cell n) ∧ W'.H a = some u') := by
  have ex : ∀ o, W.ow a = o → (W.up W').ow a = match o with
      | some (.slot i) => some (.slot i)
      | some .tmp => some .tmp
      | some .grow => some .grow
      | _ => W'.ow a := fun o ho => by
    unfold Wd.up
    simp only [h, ho]
    rcases o with _ | o
    · rfl
    · cases o <;> rfl
  have kp : dnO (W.ow a) = some .out → W'.H a = some u ∧ W'.ow a = some .out := fun e => by
    obtain ⟨e1, e2⟩ := l.keep a u h (.inr e)
    exact ⟨e1, e2.trans e⟩
  cases ho : W.ow a with
  | none =>
    obtain ⟨e1, e2⟩ := l.keep a u h (.inl (by show dnO (W.ow a) = none; rw [ho]; rfl))
    have e3 : W'.ow a = none := e2.trans (by show dnO (W.ow a) = none; rw [ho]; rfl)
    exact .inr (.inl ⟨e1, e3, rfl, (ex _ ho).trans e3⟩)
  | some o =>
    cases o with
    | cell n =>
      obtain ⟨e1, u', e2⟩ := l.cel a n u h (by show dnO (W.ow a) = _; rw [ho]; rfl)
      exact .inr (.inr ⟨n, u', rfl, e1, (ex _ ho).trans e1, e2⟩)
    | slot i => obtain ⟨e1, e2⟩ := kp (by rw [ho]; rfl); exact .inl ⟨e1, e2, (ex _ ho).trans rfl, fun n => nofun, nofun⟩
    | tmp => obtain ⟨e1, e2⟩ := kp (by rw [ho]; rfl); exact .inl ⟨e1, e2, (ex _ ho).trans rfl, fun n => nofun, nofun⟩
    | grow => obtain ⟨e1, e2⟩ := kp (by rw [ho]; rfl); exact .inl ⟨e1, e2, (ex _ ho).trans rfl, fun n => nofun, nofun⟩
    | out => obtain ⟨e1, e2⟩ := kp (by rw [ho]; rfl); exact .inl ⟨e1, e2, (ex _ ho).trans e2, fun n => nofun, nofun⟩
theorem up_new {a : Addr} (h : W.H a = none) : (W.up W').ow a = W'.ow a := by
  unfold Wd.up
  simp only [h]
theorem LeE.up (l : LeS W.dn W') : LeE W (W.up W') where
  pre := l.pre
  keep := fun a u h n => by
    rcases up_spec l h with ⟨e1, _, e2, _⟩ | ⟨e1, e2, e3, e4⟩ | ⟨m, u', e1, _⟩
    · exact ⟨e1, .inl e2⟩
    · exact ⟨e1, .inl (e4.trans e3.symm)⟩
    · exact absurd e1 (n m)
  cel := fun a n u h e => by
    rcases up_spec l h with ⟨_, _, _, e4, _⟩ | ⟨_, _, e3, _⟩ | ⟨m, u', e1, _, e2, e3⟩
    · exact absurd e (e4 n)
    · rw [e] at e3; cases e3
    · rw [e] at e1; cases e1
      exact ⟨e2, u', e3⟩
/-- behind the call, what was the callee's is no more than it was -/
theorem up_back (l : LeS W.dn W') {a : Addr} (n : W'.ow a ≠ some .out) : (W.up W').ow a = W'.ow a := by
  cases h : W.H a with
  | none => exact up_new h
  | some u =>
    rcases up_spec l h with ⟨_, e2, _⟩ | ⟨e1, e2, e3, e4⟩ | ⟨m, u', e1, e2, e3, _⟩
    · exact absurd e2 n
    · exact e4.trans e2.symm
    · exact e3.trans e2.symm
theorem Le.up (l : LeS W.dn W') : Le W' (W.up W') := ⟨fun _ _ e => e, fun a o e n => ⟨e, (up_back l (by rw [n]; intro z; cases z)).trans n⟩⟩
theorem RG.up (l : LeS W.dn W') (r : RG T W' g) : RG T (W.up W') g := by
  refine ⟨r.len, fun n c e => ?_⟩
  obtain ⟨a, h1, h2, h3⟩ := r.at_ n c e
  exact ⟨a, h1, (up_back l (by rw [h2]; intro z; cases z)).trans h2, h3.mono (Le.up l) fun _ z => z⟩
theorem RX.up {x y : AV} {w : V} (l : LeS W.dn W') (r : RX T W' x w) (e : x.back = some y) : y = x ∧ RX T (W.up W') x w := by
  cases x with
  | own xs =>
    cases e
    obtain ⟨a, vs, rfl, h, o, q⟩ := r
    exact ⟨rfl, a, vs, rfl, h, (up_back l (by rw [o]; intro z; cases z)).trans o, q.mono (Le.up l)⟩
  | bor k xs => cases e
  | _ => cases e; exact ⟨rfl, RV.mono (Le.up l) r⟩
theorem XW.mono {W1 W2 : Wd} {e : Ex} {cls : Value} {d : Option Addr} (h : Le W1 W2) (hH : W2.H = W1.H) (x : XW T W1 e cls d) : XW T W2 e cls d := by
  refine ⟨x.1, ?_⟩
  have x2 := x.2
  cases ev : e.v with
  | none => trivial
  | some v =>
    rw [ev] at x2
    obtain ⟨da, w, e1, e2, r⟩ := x2
    exact ⟨da, w, e1, by rw [hH]; exact e2, r.mono h⟩
end
/-! ### how a call binds -/
/-- nf values ahead (self), n positional ones, keywords named ks; dfl: defaults; pm: where each parameter's value stands -/
def BindAs (T : Tb) (K : PySem.W.Frag) (fd : FuncData) (ps : List PySem.Str) (nf n : Nat) (ks : List PySem.Str) (dfl : List AV) (pm : List Nat) : Prop :=
  ∀ (s : Shared) (us ws : List Value), K.In s.heap → us.length = nf + n → ws.length = ks.length → ∃ zs : List Value, BindsTo s fd ⟨us, ks.zip ws⟩ (ps.zip zs) ∧ zs.length = ps.length ∧
    ∀ (W : Wd) (af as cs r : List AV) (vs vs' : List V), Vals vs us → Vals vs' ws → RAs T W (af ++ as) vs → RAs T W cs vs' → af.length = nf → permA pm (as ++ cs ++ dfl) = some r → ∃ vz, Vals vz zs ∧ RAs T W (af ++ r) vz
/-- every parameter is given, by place -/
theorem BindAs.all {T : Tb} {K : PySem.W.Frag} {fd : FuncData} {ps : List PySem.Str} {nf n : Nat} (hl : ps.length = nf + n) (h : ∀ us : List Value, us.length = ps.length → bindArgs fd ⟨us, []⟩ = pure (ps.zip us)) : BindAs T K fd ps nf n [] [] [] := by
  intro s us ws _ h1 h2
  obtain rfl : ws = [] := List.eq_nil_of_length_eq_zero h2
  refine ⟨us, .of_eq (h us (h1.trans hl.symm)), h1.trans hl.symm, fun W af as cs r vs vs' rv rv' ra ra' e1 e2 => ?_⟩
  cases rv'
  cases ra'
  simp [permA] at e2
  subst e2
  exact ⟨vs, rv, ra⟩
section
variable {P : Pg} {call : CallT} {T : Tb} {Z : WX} {X : Cx} {pos p : Pos} {k : Nat} {f : Nat} {fd : FuncData} {ps : List PySem.Str} {nf n : Nat} {ks : List PySem.Str} {dfl : List AV} {pm : List Nat}
end
end Ev
end

section
set_option Elab.async false
set_option linter.all false
set_option maxRecDepth 100000
set_option maxHeartbeats 4000000
/-! Types, attributes, methods, new instances. -/
namespace Ev
open PySem PySem.Spec PyProof.Rows L2
def tys : List String := ["NoneType", "bool", "int", "str", "tuple", "list"]
/-- what the text's classes are -/
structure Kn (P : Pg) (T : Tb) (K : PySem.W.Frag) : Prop where
  an : ∀ a b, T.an a = T.an b → a = b
  cls : ∀ c k, P.clss c = some k → Cls K (T.ca c) ∧ PySem.W.findIn K (.ref (T.ca c)) "__class__" = some (some (.builtin "object.__class__")) ∧ PySem.W.mroIn K (T.ca c) (.type "object") = some true
  dsc : (∃ c, (P.clss c).isSome = true) → PySem.W.specialIn K (.builtin "object.__class__") "__get__" = some (some (.builtin "getset_descriptor.__get__")) ∧ PySem.W.takesIn K (.builtin "object.__class__") = some true
  sub : ∀ c d k k', P.clss c = some k → P.clss d = some k' → PySem.W.kitOne K (.ref (T.ca c)) (.ref (T.ca d)) = some (P.sub c d)
  kb : ∀ c k t, P.clss c = some k → t ∈ tys → PySem.W.kitOne K (.ref (T.ca c)) (.type t) = some false
  kn : ∀ c k t, P.clss c = some k → t ∈ tys → PySem.W.kitOne K (.type t) (.ref (T.ca c)) = some false
  att : ∀ c k a, P.clss c = some k → k.atts.contains a = true → NoAttr K (T.ca c) (T.an a)
  mth : ∀ c k m f, P.clss c = some k → k.meths.lookup m = some f → Meth K (T.ca c) (T.an m) (T.fa f)
  prp : ∀ c k m f, P.clss c = some k → k.props.lookup m = some f → ∃ p, PropOf K (T.ca c) (T.an m) p (T.fa f)
  ini : ∀ c k f, P.clss c = some k → k.init = some f → Mk K (T.ca c) (T.fa f)
def TyT.nm : TyT → String
  | .int => "int"
  | .bool => "bool"
  | .str => "str"
  | .tup => "tuple"
  | .lst => "list"
  | .own _ => ""
/-- a type as a value -/
def tyV (T : Tb) : TyT → V
  | .own d => .ref (T.ca d)
  | t => .ty t.nm
def tyU (T : Tb) : TyT → Value
  | .own d => .ref (T.ca d)
  | t => .type t.nm
section
variable {P : Pg} {T : Tb} {K : PySem.W.Frag} {W : Wd} {g : G}
/-- a type whose instances have a plain answer -/
theorem kit_plain (kn : Kn P T K) {n : String} (hn : n ∈ tys) {t : TyT} {b : Bool} (ht : ∀ d, t = .own d → (P.clss d).isSome = true ∧ b = false)
    (hb : (∀ d, t ≠ .own d) → kitB n t.nm = some b) : PySem.W.kitOne K (.type n) (tyU T t) = some b := by
  cases t with
  | own d =>
    obtain ⟨h1, rfl⟩ := ht d rfl
    obtain ⟨k, hk⟩ := Option.isSome_iff_exists.mp h1
    exact kn.kn d k n hk hn
  | int => exact kit_ty (hb fun d z => by cases z)
  | bool => exact kit_ty (hb fun d z => by cases z)
  | str => exact kit_ty (hb fun d z => by cases z)
  | tup => exact kit_ty (hb fun d z => by cases z)
  | lst => exact kit_ty (hb fun d z => by cases z)
theorem kit_own (kn : Kn P T K) {c : Nat} {k : ClsD} (hc : P.clss c = some k) {t : TyT} {b : Bool} (ht : ∀ d, t = .own d → (P.clss d).isSome = true ∧ b = P.sub c d) (hb : (∀ d, t ≠ .own d) → b = false) : PySem.W.kitOne K (.ref (T.ca c)) (tyU T t) = some b := by
  cases t with
  | own d =>
    obtain ⟨h1, rfl⟩ := ht d rfl
    obtain ⟨k', hk⟩ := Option.isSome_iff_exists.mp h1
    exact kn.sub c d k k' hc hk
  | int => rw [hb fun d z => by cases z]; exact kn.kb c k _ hc (by decide)
  | bool => rw [hb fun d z => by cases z]; exact kn.kb c k _ hc (by decide)
  | str => rw [hb fun d z => by cases z]; exact kn.kb c k _ hc (by decide)
  | tup => rw [hb fun d z => by cases z]; exact kn.kb c k _ hc (by decide)
  | lst => rw [hb fun d z => by cases z]; exact kn.kb c k _ hc (by decide)
def Pg.has (P : Pg) : TyT → Bool
  | .own d => (P.clss d).isSome
  | _ => true
theorem RH.isi (kn : Kn P T K) (hK : K = T.K) (hG : RG T W g) {x : AV} {v : V} {t : TyT} {b : Bool} (r : RH T W x v) (hd : P.has t = true) (e : isinst P g t x = some b) :
    ∃ ty, TyX K W.H v ty ∧ PySem.W.kitOne K ty (tyU T t) = some b := by
  have pl : ∀ n, n ∈ tys → ∀ ty, ty = Value.type n → (∀ d, t = .own d → b = false) → ((∀ d, t ≠ .own d) → kitB n t.nm = some b) → PySem.W.kitOne K ty (tyU T t) = some b := fun n hn ty e1 h1 h2 => by
    subst e1
    exact kit_plain kn hn (fun d hd' => ⟨by subst hd'; exact hd, h1 d hd'⟩) h2
  have lst : ∀ a vs, v = .ref a → W.H a = some (.lst vs) → some (t == TyT.lst) = some b → ∃ ty, TyX K W.H v ty ∧ PySem.W.kitOne K ty (tyU T t) = some b := fun a vs e1 e2 e3 => by
    subst e1
    refine ⟨_, .base (.lst e2), pl "list" (by decide) _ rfl (fun d z => by subst z; cases e3; rfl) fun z => ?_⟩
    cases t <;> first | exact absurd rfl (z _) | (cases e3; decide +kernel)
  have ins : ∀ c ns vs a dx fs, v = .ref a → W.H a = some (.ins (T.ca c) dx fs) → isinst P g t (.ins c ns vs) = some b → ∃ ty, TyX K W.H v ty ∧ PySem.W.kitOne K ty (tyU T t) = some b := fun c ns vs a dx fs e1 e2 e3 => by
    subst e1
    simp only [isinst] at e3
    cases hc : P.clss c with
    | none => rw [hc] at e3; cases e3
    | some k =>
      rw [hc] at e3
      obtain ⟨h1, h2, h3⟩ := kn.cls c k hc
      obtain ⟨h4, h5⟩ := kn.dsc ⟨c, by rw [hc]; rfl⟩
      refine ⟨_, .base (.ins e2 h1 h2 h4 h5 h3), kit_own kn hc (fun d z => ⟨by subst z; exact hd, ?_⟩) fun z => ?_⟩
      · subst z; exact (Option.some.inj e3).symm
      · cases t <;> first | exact absurd rfl (z _) | (cases e3; rfl)
  cases x with
  | non =>
    cases r; cases e
    exact ⟨_, .base .non, pl "NoneType" (by decide) _ rfl (fun _ _ => rfl) fun z => by cases t <;> first | exact absurd rfl (z _) | decide +kernel⟩
  | bl k =>
    cases r; cases e
    exact ⟨_, .base (.bl k), pl "bool" (by decide) _ rfl (fun d z => by subst z; rfl) fun z => by cases t <;> first | exact absurd rfl (z _) | decide +kernel⟩
  | int i =>
    cases r; cases e
    exact ⟨_, .base (.int i), pl "int" (by decide) _ rfl (fun d z => by subst z; rfl) fun z => by cases t <;> first | exact absurd rfl (z _) | decide +kernel⟩
  | str i =>
    cases r; cases e
    exact ⟨_, .base (.str i), pl "str" (by decide) _ rfl (fun d z => by subst z; rfl) fun z => by cases t <;> first | exact absurd rfl (z _) | decide +kernel⟩
  | tup xs =>
    have h2 : PySem.W.kitOne K (.type "tuple") (tyU T t) = some b := pl "tuple" (by decide) _ rfl (fun d z => by subst z; cases e; rfl) fun z => by cases t <;> first | exact absurd rfl (z _) | (cases e; decide +kernel)
    have r : RV T W (.tup xs) v := r
    cases r with
    | tup h o q => exact ⟨_, .base (.tup h), h2⟩
    | tupK h q =>
      rcases h with (h | ⟨_, h⟩) | ⟨o, its, n, h, c, _⟩
      · cases h
      · cases h
      · exact ⟨_, .kTuple (hK ▸ h) c, h2⟩
  | lst xs =>
    have r : RV T W (.lst xs) v := r
    cases r with
    | lst h o q => exact lst _ _ rfl h e
  | own xs =>
    have r : RV T W (.lst xs) v := r
    cases r with
    | lst h o q => exact lst _ _ rfl h e
  | bor k xs =>
    obtain ⟨a, vs, rfl, h, _⟩ := r
    exact lst _ _ rfl h e
  | scr xs =>
    have r : RV T W (.scr xs) v := r
    cases r with
    | scrK h q =>
      rcases h with (h | ⟨_, h⟩) | ⟨o, its, n, h, c, _⟩
      · cases h
      · cases h
      · exact ⟨_, .kList (hK ▸ h) c, pl "list" (by decide) _ rfl (fun d z => by subst z; cases e; rfl) fun z => by cases t <;> first | exact absurd rfl (z _) | (cases e; decide +kernel)⟩
    | scr h o q =>
      exact ⟨_, .base (.frz h), pl "list" (by decide) _ rfl (fun d z => by subst z; cases e; rfl) fun z => by cases t <;> first | exact absurd rfl (z _) | (cases e; decide +kernel)⟩
  | ins c ns vs =>
    have r : RV T W (.ins c ns vs) v := r
    cases r with
    | ins h o n q => exact ins c ns vs _ _ _ rfl h e
  | ref n =>
    have r : RV T W (.ref n) v := r
    cases r with
    | ref h =>
      simp only [isinst] at e
      cases hg : g[n]? with
      | none => rw [hg] at e; cases e
      | some o =>
        rw [hg] at e
        cases o with
        | none => cases e
        | some cl =>
          obtain ⟨b', h1, _, h3⟩ := hG.at_ n cl hg
          rw [h] at h1; cases h1
          cases cl with
          | lst xs => obtain ⟨vs, h4, _⟩ := h3; exact lst _ _ rfl h4 e
          | ins c ns vs => obtain ⟨dx, fs, h4, _⟩ := h3; exact ins c ns vs _ _ _ rfl h4 e
  | _ => cases e
end
end Ev
end

section
set_option Elab.async false
set_option linter.all false
set_option maxRecDepth 100000
set_option maxHeartbeats 4000000
/-! Attributes, methods, new instances, calls of values. -/
namespace Ev
open PySem PySem.Spec PyProof.Rows L2
/-- the defs keep their promises at level k -/
structure FnsOk (P : Pg) (T : Tb) (call : CallT) (X : Cx) (k : Nat) (fd : Nat → FuncData) (ps : Nat → List PySem.Str) : Prop where
  ok : ∀ f d, P.fns f = some d → FnOk X.prog X.w X.K X.mg X.base (CX X.prog X.w) k (T.fa f) (fd f) (ps f) (spOf T call f)
  kp : ∀ f d, P.fns f = some d → PySem.W.keepIn X.K (.ref (T.fa f)) = true
  np : ∀ f d, P.fns f = some d → (ps f).length = d.np
  bn : ∀ f d, P.fns f = some d → Binds X.K (fd f) (ps f) []
  no : ∀ f, P.fns f = none → ∀ vs g, call f vs g = .no
  ar : ∀ f d vs g, P.fns f = some d → vs.length ≠ d.np → call f vs g = .no
section
variable {P : Pg} {call : CallT} {T : Tb} {Z : WX} {X : Cx} {σ : L2.St} {W : Wd} {s : Sl} {g : G}
theorem RH.ra {x : AV} {v : V} (r : RH T W x v) (h : ∀ k xs, x ≠ .bor k xs) (h2 : ∀ xs, x ≠ .own xs) : RA T W x v := by
  cases x with
  | own xs => exact absurd rfl (h2 _)
  | bor k xs => exact absurd rfl (h _ _)
  | _ => exact r
theorem RA.dn {x : AV} {v : V} (r : RA T W x v) : RA T W.dn x v := by
  cases x with
  | own xs => exact r
  | bor k xs =>
    obtain ⟨hk, a, vs, rfl, h, o, q⟩ := r
    exact ⟨hk, a, vs, rfl, h, by show dnO (W.ow a) = _; rw [o]; rfl, q.mono Wd.dn_le⟩
  | _ => exact RV.mono Wd.dn_le r
/-! ### isinstance -/
/-! ### attributes -/
/-! ### methods -/
end
end Ev
end

section
set_option Elab.async false
set_option linter.all false
set_option maxRecDepth 100000
set_option maxHeartbeats 4000000
/-! A store of its own; new instances; calls of values. -/
namespace Ev
open PySem PySem.Spec PyProof.Rows L2
/-- a world whose store is hidden -/
def Wd.iso (W : Wd) : Wd := ⟨[], fun a => match W.ow a with
  | none => none
  | some _ => some .out, W.H⟩
/-- back from it -/
def Wd.bk (W W' : Wd) : Wd := ⟨W.ρ, fun a => match W.H a with
  | some _ => W.ow a
  | none => match W'.ow a with
    | some (.cell _) => none
    | o => o, W'.H⟩
section
variable {T : Tb} {W W' : Wd} {g g' : G}
theorem iso_none {a : Addr} : W.iso.ow a = none ↔ W.ow a = none := by
  unfold Wd.iso
  cases h : W.ow a <;> simp [h]
theorem iso_keep (l : LeS W.iso W') {a : Addr} {u : HO} (h : W.H a = some u) : W'.H a = some u ∧ (W'.ow a = none ↔ W.ow a = none) ∧ (W'.ow a = none ∨ W'.ow a = some .out) := by
  have ho : W.iso.ow a = none ∨ W.iso.ow a = some .out := by
    unfold Wd.iso
    cases h : W.ow a <;> simp [h]
  obtain ⟨e1, e2⟩ := l.keep a u h ho
  exact ⟨e1, by rw [e2]; exact iso_none, by rw [e2]; exact ho⟩
theorem bk_in {a : Addr} {u : HO} (h : W.H a = some u) : (W.bk W').ow a = W.ow a := by
  unfold Wd.bk
  simp only [h]
theorem bk_new {a : Addr} (h : W.H a = none) : (W.bk W').ow a = match W'.ow a with
    | some (.cell _) => none
    | o => o := by
  unfold Wd.bk
  simp only [h]
theorem LeE.bk (l : LeS W.iso W') : LeE W (W.bk W') where
  pre := fun _ _ e => e
  keep := fun a u h n => ⟨(iso_keep l h).1, .inl (bk_in h)⟩
  cel := fun a n u h e => ⟨(bk_in h).trans e, u, (iso_keep l h).1⟩
theorem RG.bk (l : LeS W.iso W') (r : RG T W g) : RG T (W.bk W') g := by
  refine ⟨r.len, fun n c e => ?_⟩
  obtain ⟨a, h1, h2, h3⟩ := r.at_ n c e
  obtain ⟨u, hu⟩ := h3.there
  exact ⟨a, h1, (bk_in hu).trans h2, h3.mono (LeE.bk l).le fun v z => (iso_keep l z).1⟩
theorem RG.iso : RG T W.iso [] := ⟨rfl, fun n c e => by simp at e⟩
theorem bk_none (l : LeS W.iso W') {a : Addr} (n : W'.ow a = none) : (W.bk W').ow a = none := by
  cases h : W.H a with
  | some u => rw [bk_in h]; exact ((iso_keep l h).2.1).mp n
  | none => rw [bk_new h, n]
mutual
theorem RV.iso : ∀ {x : AV} {v : V}, x.pure = true → RV T W x v → RV T W.iso x v
  | _, _, _, .non => .non
  | _, _, _, .bl b => .bl b
  | _, _, _, .int i => .int i
  | _, _, _, .str x => .str x
  | .tup _, _, p, .tup e o r => .tup e (iso_none.mpr o) (RVs.iso (by simpa [AV.pure] using p) r)
  | .scr _, _, p, .scr e o r => .scr e (iso_none.mpr o) (RVs.iso (by simpa [AV.pure] using p) r)
  | .tup _, _, p, .tupK e r => .tupK e (RVs.iso (by simpa [AV.pure] using p) r)
  | .scr _, _, p, .scrK e r => .scrK e (RVs.iso (by simpa [AV.pure] using p) r)
  | .lst _, _, p, .lst e o r => .lst e (iso_none.mpr o) (RVs.iso (by simpa [AV.pure] using p) r)
  | .ins _ _ _, _, p, .ins e o n r => .ins e (iso_none.mpr o) n (RVs.iso (by simpa [AV.pure] using p) r)
  | .ref _, _, p, .ref e => by simp [AV.pure] at p
  | _, _, _, .fn f => .fn f
  | _, _, _, .cls c => .cls c
theorem RVs.iso : ∀ {xs : List AV} {vs : List V}, AV.pures xs = true → RVs T W xs vs → RVs T W.iso xs vs
  | _, _, _, .nil => .nil
  | _ :: _, _, p, .cons r t => by
    simp only [AV.pures, Bool.and_eq_true] at p
    exact .cons (RV.iso p.1 r) (RVs.iso p.2 t)
end
mutual
theorem RV.bk (l : LeS W.iso W') : ∀ {x : AV} {v : V}, x.pure = true → RV T W' x v → RV T (W.bk W') x v
  | _, _, _, .non => .non
  | _, _, _, .bl b => .bl b
  | _, _, _, .int i => .int i
  | _, _, _, .str x => .str x
  | .tup _, _, p, .tup e o r => .tup e (bk_none l o) (RVs.bk l (by simpa [AV.pure] using p) r)
  | .scr _, _, p, .scr e o r => .scr e (bk_none l o) (RVs.bk l (by simpa [AV.pure] using p) r)
  | .tup _, _, p, .tupK e r => .tupK e (RVs.bk l (by simpa [AV.pure] using p) r)
  | .scr _, _, p, .scrK e r => .scrK e (RVs.bk l (by simpa [AV.pure] using p) r)
  | .lst _, _, p, .lst e o r => .lst e (bk_none l o) (RVs.bk l (by simpa [AV.pure] using p) r)
  | .ins _ _ _, _, p, .ins e o n r => .ins e (bk_none l o) n (RVs.bk l (by simpa [AV.pure] using p) r)
  | .ref _, _, p, .ref e => by simp [AV.pure] at p
  | _, _, _, .fn f => .fn f
  | _, _, _, .cls c => .cls c
theorem RVs.bk (l : LeS W.iso W') : ∀ {xs : List AV} {vs : List V}, AV.pures xs = true → RVs T W' xs vs → RVs T (W.bk W') xs vs
  | _, _, _, .nil => .nil
  | _ :: _, _, p, .cons r t => by
    simp only [AV.pures, Bool.and_eq_true] at p
    exact .cons (RV.bk l p.1 r) (RVs.bk l p.2 t)
end
theorem RA.iso {x : AV} {v : V} (p : x.pure = true) (r : RA T W x v) : RA T W.iso x v := by
  cases x with
  | own xs => exact r
  | bor k xs =>
    obtain ⟨hk, a, vs, rfl, h, o, q⟩ := r
    exact ⟨hk, a, vs, rfl, h, by unfold Wd.iso; simp only [o], q.iso (by simpa [AV.pure] using p)⟩
  | _ => exact RV.iso p r
theorem RAs.iso : ∀ {xs : List AV} {vs : List V}, AV.pures xs = true → RAs T W xs vs → RAs T W.iso xs vs
  | _, _, _, .nil => .nil
  | _ :: _, _, p, .cons r t => by
    simp only [AV.pures, Bool.and_eq_true] at p
    exact .cons (r.iso p.1) (RAs.iso p.2 t)
theorem RX.bk (l : LeS W.iso W') {x : AV} {v : V} (p : x.pure = true) (nb : ∀ k xs, x ≠ .bor k xs) (r : RX T W' x v) : RX T (W.bk W') x v := by
  cases x with
  | own xs =>
    obtain ⟨a, vs, rfl, h, o, q⟩ := r
    refine ⟨a, vs, rfl, h, ?_, q.bk l (by simpa [AV.pure] using p)⟩
    cases hW : W.H a with
    | some u => rcases (iso_keep l hW).2.2 with z | z <;> (rw [z] at o; cases o)
    | none => rw [bk_new hW, o]
  | bor k xs => exact absurd rfl (nb _ _)
  | _ => exact RV.bk l p r
theorem XW.bk (l : LeS W.iso W') {e : Ex} {cls : Value} {d : Option Addr} (p : (match e.v with | some v => v.pure | none => true) = true) (x : XW T W' e cls d) : XW T (W.bk W') e cls d := by
  refine ⟨x.1, ?_⟩
  have x2 := x.2
  cases ev : e.v with
  | none => trivial
  | some v =>
    rw [ev] at x2 p
    obtain ⟨da, w, e1, e2, r⟩ := x2
    exact ⟨da, w, e1, e2, r.bk l p⟩
end
section
variable {P : Pg} {call : CallT} {T : Tb} {Z : WX} {X : Cx} {σ : L2.St} {W : Wd} {s : Sl} {g : G} {k : Nat} {fd : Nat → FuncData} {ps : Nat → List PySem.Str}
end
end Ev
end

section
set_option Elab.async false
set_option linter.all false
set_option maxRecDepth 100000
set_option maxHeartbeats 4000000
/-! Statements. -/
namespace Ev
open PySem PySem.Spec PyProof.Rows L2
/-- what is wanted of a statement's run, from the world W0 -/
def DSS (T : Tb) (W0 : Wd) (D : Ends) (Z : WX) : Ev.R (Option AV × Sl) → Prop
  | .ok (none, s') g' => ∀ W' σ', LeS W0 W' → RG T W' g' → RSt T W' s' σ' → D.nx σ' W'.H
  | .ok (some v, _) g' => ∀ W', LeS W0 W' → RG T W' g' → ∀ w, RX T W' v w → D.rt w W'.H
  | .ex e g' => ∀ W' σ', LeS W0 W' → RG T W' g' → ∀ cls d, XW T W' e cls d → Z cls d σ' W'.H
  | .no => False
section
variable (P : Pg) (call : CallT) (T : Tb) (Z : WX)
def cS1 (b : S) : TS := fun D σ H => ∃ W0 W s g, W.H = H ∧ LeS W0 W ∧ RSt T W s σ ∧ RG T W g ∧ DSS T W0 D Z (evS P call b s g)
def cS (b : Ss) : TS := fun D σ H => ∃ W0 W s g, W.H = H ∧ LeS W0 W ∧ RSt T W s σ ∧ RG T W g ∧ DSS T W0 D Z (evSs P call b s g)
end
section
variable {P : Pg} {call : CallT} {T : Tb} {Z : WX} {X : Cx} {σ : L2.St} {W W0 : Wd} {s : Sl} {g : G} {D : Ends} {pos : Pos}
theorem DSS.mono {W1 : Wd} {r : Ev.R (Option AV × Sl)} (h : LeS W0 W1) (d : DSS T W0 D Z r) : DSS T W1 D Z r := by
  match r with
  | .ok (none, s') g' => exact fun W' σ' l => d W' σ' (h.trans l)
  | .ok (some v, s') g' => exact fun W' l => d W' (h.trans l)
  | .ex e g' => exact fun W' σ' l => d W' σ' (h.trans l)
  | .no => exact d
theorem DSS.imp {D' : Ends} {r : Ev.R (Option AV × Sl)} (d : DSS T W0 D Z r) (h : ∀ σ H, D.nx σ H → D'.nx σ H) (h2 : ∀ v H, D.rt v H → D'.rt v H) : DSS T W0 D' Z r := by
  match r with
  | .ok (none, s') g' => exact fun W' σ' l q r => h _ _ (d W' σ' l q r)
  | .ok (some v, s') g' => exact fun W' l q w r => h2 _ _ (d W' l q w r)
  | .ex e g' => exact d
  | .no => exact d
/-! ### blocks -/
variable {e c : Expr} {ee ec : E}
end
end Ev
end

section
set_option Elab.async false
set_option linter.all false
set_option maxRecDepth 100000
set_option maxHeartbeats 4000000
/-! Statements that store. -/
namespace Ev
open PySem PySem.Spec PyProof.Rows L2
section
variable {T : Tb} {W W0 : Wd} {s : Sl} {σ : L2.St} {g : G}
/-- a thing of a slot's or of the store is changed -/
theorem LeS.own {a : Addr} {o : Own} {u : HO} (h : W.ow a = some o) (ho : o ≠ .out) (e : ∃ v, W.H a = some v) : LeS W (W.new a u (some o)) := by
  refine ⟨fun _ _ e => e, fun b v e n => ?_, fun b n v e c => ?_⟩
  · have hb : b ≠ a := fun z => by
      rw [z, h] at n
      rcases n with n | n
      · cases n
      · exact ho (Option.some.inj n)
    exact ⟨by show upd W.H a u b = _; rw [upd_ne hb]; exact e, if_neg hb⟩
  · by_cases hb : b = a
    · subst hb
      rw [h] at c
      exact ⟨Wd.new_ow.trans c, u, Wd.new_at⟩
    · exact ⟨(if_neg hb : (W.new a u (some o)).ow b = W.ow b).trans c, v, by show upd W.H a u b = _; rw [upd_ne hb]; exact e⟩
end
/-- what is wanted of a store's run -/
def DSA (T : Tb) (W0 : Wd) (Q : L2.St → Hp → Prop) (Z : WX) : Ev.R Sl → Prop
  | .ok s' g' => ∀ W' σ', LeS W0 W' → RG T W' g' → RSt T W' s' σ' → Q σ' W'.H
  | .ex e g' => ∀ W' σ', LeS W0 W' → RG T W' g' → ∀ cls d, XW T W' e cls d → Z cls d σ' W'.H
  | .no => False
/-- an assignment's target, its reading -/
def cTa (P : Pg) (call : CallT) (T : Tb) (Z : WX) (t : Ta) : TG := fun v σ H Q => ∃ W0 W s g x, W.H = H ∧ LeS W0 W ∧ RSt T W s σ ∧ RG T W g ∧ RX T W x v ∧ DSA T W0 Q Z (asgA P call t x s g)
def cTas (P : Pg) (call : CallT) (T : Tb) (Z : WX) (ts : Tas) : TGs := fun vs σ H Q => ∃ W0 W s g xs, W.H = H ∧ LeS W0 W ∧ RSt T W s σ ∧ RG T W g ∧ RVs T W xs vs ∧ DSA T W0 Q Z (asgA.asgAs P call ts xs s g)
section
variable {P : Pg} {call : CallT} {T : Tb} {Z : WX} {X : Cx} {σ : L2.St} {W W0 : Wd} {s : Sl} {g : G} {pos : Pos} {Q : L2.St → Hp → Prop} {a i o e : Expr} {ea ei eo ee : E}
def sliced : Expr → Bool
  | .Slice .. => true
  | _ => false
/-! ### assignments -/
end
end Ev
end

section
set_option Elab.async false
set_option linter.all false
set_option maxRecDepth 100000
set_option maxHeartbeats 4000000
/-! Built-in calls; several names at once; x += e; append; attributes stored. -/
namespace Ev
open PySem PySem.Spec PyProof.Rows L2
section
variable {P : Pg} {call : CallT} {T : Tb} {Z : WX} {X : Cx} {σ : L2.St} {W W0 : Wd} {s : Sl} {g : G} {pos p : Pos} {e o : Expr} {es : List Expr} {ee eo : E} {es' : Es} {b : Bf} {x : PySem.Str}
/-! ### several names at once -/
/-! ### x op= e -/
/-! ### o.append(e) -/
/-! ### o.a = e -/
end
end Ev
end

section
set_option Elab.async false
set_option linter.all false
set_option maxRecDepth 100000
set_option maxHeartbeats 4000000
/-! sorted(xs), xs a list of tuples of ints, of any length -/
namespace So
open PySem PySem.W PyProof.Rows PyProof.Rows.G
def no : Nat → Bool := fun _ => false
theorem ofInts : ∀ {xs : List Value} {ns : List Int} (i : Nat), IntsAre xs ns → tupItems no i xs = some (ns.map Sum.inl)
  | _, _, _, .nil => rfl
  | _, _, i, .cons (n := n) (t := t) r => by
    have := ofInts (i + 1) r
    show (tupItems no (i + 1) _).map (Sum.inl n :: ·) = _
    rw [this]; rfl
theorem key {h : Heap} {v : Value} {ns : List Int} (x : TS.TupInts h v ns) : tupKeyC h no v = some (ns.map Sum.inl) := by
  obtain ⟨a, xs, rfl, ⟨o, ho, hc, n, hd⟩, i⟩ := x
  unfold tupKeyC
  have e1 : isTupObj h (.ref a) = true := by simp [isTupObj, ho, hc]
  rw [if_pos e1]
  simp only [tupKey, ho, hd]
  exact ofInts 0 i
theorem tup {h : Heap} {v : Value} {ns : List Int} (x : TS.TupInts h v ns) (hl : 1 ≤ ns.length) : ∃ f, TupOf h no v f := by
  obtain ⟨a, xs, rfl, ⟨o, ho, hc, n, hd⟩, i⟩ := x
  obtain ⟨xl⟩ := xs
  cases i with
  | nil => simp at hl
  | cons r => exact ⟨_, a, o, _, n, rfl, ho, hc, hd, rfl, fun _ => ⟨_, _, rfl⟩, fun e => absurd e (by decide)⟩
section
variable {prog : Program} {w : World} {A : Around} {E : Value → Shared → Prop} {s : Shared}
end
end So
namespace L2
open PySem PySem.Spec PyProof.Rows
section
variable {X : Cx} {pins : List (Addr × Obj)} {σ : St} {H : Hp} {s : Shared}
/-- sorted(xs), xs a list of tuples of d ints in [0, B): a new list of the same, ascending by code B -/
def rSortV (K : PySem.W.Frag) (d : Nat) (B : Int) : List V → Hp → VK → Prop := fun vs H Q => ∃ (a : Addr) (xs : List V), vs = [V.ref a] ∧ SqL K H a xs ∧ (∀ x ∈ xs, ∃ ns, TupI K H x ns ∧ ns.length = d ∧ TS.Bd B ns) ∧
  ∀ (ys : List V) (p : Addr), ys.Perm xs → ys.Pairwise (fun x y => ∀ n m, TupI K H x n → TupI K H y m → TS.code B n ≤ TS.code B m) → H p = none → Q (.ref p) (upd H p (.lst ys))
end
end L2
end

section
set_option Elab.async false
set_option linter.all false
set_option maxRecDepth 100000
set_option maxHeartbeats 4000000
/-! sorted(xs), xs a tuple of ints -/
namespace So
open PySem PySem.W PyProof.Rows PyProof.Rows.G
section
variable {prog : Program} {w : World} {A : Around} {E : Value → Shared → Prop} {s : Shared}
abbrev upC (h : Heap) (vs : List Value) : Heap := (h.push (seqObj "list" #[] 0)).update h.objs.size (Obj.mapSeq (· ++ vs.toArray))
open PyProof.Rows Srt in
end
end So
namespace L2
open PySem PySem.Spec PyProof.Rows
/-- sorted(xs), xs a tuple of ints -/
def rSortTI (K : PySem.W.Frag) : List V → Hp → VK → Prop := fun vs H Q => ∃ (a : Addr) (ns : List Int), vs = [V.ref a] ∧ SqT K H a (ns.map V.int) ∧
  ∀ (is : List Int) (p : Addr), is.Perm ns → is.Pairwise (· ≤ ·) → H p = none → Q (.ref p) (upd H p (.lst (is.map V.int)))
section
variable {X : Cx}
end
end L2
end

section
set_option Elab.async false
set_option linter.all false
set_option maxRecDepth 100000
set_option maxHeartbeats 4000000
/-! t[::-1] of a tuple -/
namespace Ev
open PySem PySem.Spec PyProof.Rows L2 HT
section
variable {prog : PySem.Program} {w : PySem.World} {A : Around} {E : Value → Shared → Prop} {s : PySem.Shared}
end
end Ev
end

section
set_option Elab.async false
set_option linter.all false
set_option maxRecDepth 100000
set_option maxHeartbeats 4000000
/-! More built-ins: list(range(..)), xs[::-1], repr, insert. -/
namespace Ev
open PySem PySem.Spec PyProof.Rows L2
section
variable {P : Pg} {call : CallT} {T : Tb} {Z : WX} {X : Cx} {σ : L2.St} {W W0 : Wd} {s : Sl} {g : G} {pos p p2 q2 : Pos} {e o a b : Expr} {ee eo ea eb : E} {x : PySem.Str}
theorem RVs.rev : ∀ {xs : List AV} {vs : List V}, RVs T W xs vs → RVs T W xs.reverse vs.reverse
  | _, _, .nil => .nil
  | _, _, .cons r t => by
    rw [List.reverse_cons, List.reverse_cons]
    exact RVs.append (RVs.rev t) (.cons r .nil)
/-- e[::-1] -/
def tRevA (K : PySem.W.Frag) (te : TE) : TE := fun σ H Q => te σ H fun x H1 => ∃ a xs, x = .ref a ∧ ((SqL K H1 a xs ∧ ∀ p, H1 p = none → Q (.ref p) (upd H1 p (.lst xs.reverse))) ∨ (SqT K H1 a xs ∧ ∀ p, H1 p = none → Q (.ref p) (upd H1 p (.tup xs.reverse))))
def tLenSetT (K : PySem.W.Frag) (ta : TE) : TE := fun σ H Q => ta σ H fun x H1 => ∃ (l : Addr) (ns : List Int), x = V.ref l ∧ SqT K H1 l (ns.map V.int) ∧ ns.length < 60 ∧ Q (.int (onceI ns).length) H1
/-- isinstance(a, (tuple, list)) -/
theorem RH.isTL {K : PySem.W.Frag} (kn : Kn P T K) (hK : K = T.K) (hG : RG T W g) {x : AV} {v : V} {b : Bool} (r : RH T W x v) (e : isTLA x = some b) :
    ∃ ty, TyX K W.H v ty ∧ PySem.W.kitAny K ty [Value.type "tuple", Value.type "list"] = some b := by
  have pl : ∀ n, n ∈ tys → ∀ a c, kitB n "tuple" = some a → kitB n "list" = some c → (a || c) = b → PySem.W.kitAny K (Value.type n) [Value.type "tuple", Value.type "list"] = some b := fun n hn a c h1 h2 h3 => by
    have k1 : PySem.W.kitOne K (.type n) (.type "tuple") = some a := kit_plain kn hn (t := .tup) (fun d z => by cases z) fun _ => h1
    have k2 : PySem.W.kitOne K (.type n) (.type "list") = some c := kit_plain kn hn (t := .lst) (fun d z => by cases z) fun _ => h2
    simp only [PySem.W.kitAny, k1, k2]
    cases a <;> cases c <;> simp_all
  have lst : ∀ a vs, v = .ref a → W.H a = some (.lst vs) → true = b → ∃ ty, TyX K W.H v ty ∧ PySem.W.kitAny K ty [Value.type "tuple", Value.type "list"] = some b := fun a vs e1 e2 e3 => by
    subst e1
    exact ⟨_, .base (.lst e2), pl "list" (by decide) false true (by decide +kernel) (by decide +kernel) e3⟩
  cases x with
  | non => cases r; cases e; exact ⟨_, .base .non, pl "NoneType" (by decide) false false (by decide +kernel) (by decide +kernel) rfl⟩
  | bl k => cases r; cases e; exact ⟨_, .base (.bl k), pl "bool" (by decide) false false (by decide +kernel) (by decide +kernel) rfl⟩
  | int i => cases r; cases e; exact ⟨_, .base (.int i), pl "int" (by decide) false false (by decide +kernel) (by decide +kernel) rfl⟩
  | str i => cases r; cases e; exact ⟨_, .base (.str i), pl "str" (by decide) false false (by decide +kernel) (by decide +kernel) rfl⟩
  | tup xs =>
    cases e
    have h2 := pl "tuple" (by decide) true false (by decide +kernel) (by decide +kernel) rfl
    have r : RV T W (.tup xs) v := r
    cases r with
    | tup h o q => exact ⟨_, .base (.tup h), h2⟩
    | tupK h q =>
      rcases h with (h | ⟨_, h⟩) | ⟨o, its, n, h, c, _⟩
      · cases h
      · cases h
      · exact ⟨_, .kTuple (hK ▸ h) c, h2⟩
  | lst xs =>
    cases e
    have r : RV T W (.lst xs) v := r
    cases r with
    | lst h o q => exact lst _ _ rfl h rfl
  | own xs =>
    cases e
    have r : RV T W (.lst xs) v := r
    cases r with
    | lst h o q => exact lst _ _ rfl h rfl
  | bor k xs =>
    cases e
    obtain ⟨a, vs, rfl, h, _⟩ := r
    exact lst _ _ rfl h rfl
  | _ => cases e
/-! sorted -/
inductive Two {α β : Type} (R : α → β → Prop) : List α → List β → Prop where
  | nil : Two R [] []
  | cons {a : α} {b : β} {l : List α} {m : List β} (h : R a b) (t : Two R l m) : Two R (a :: l) (b :: m)
/-- o[k], o a list, k not below 0 -/
def rGet0 : V → V → Hp → VK → Prop := fun o i H Q => ∃ (p : Addr) (xs : List V) (k : Int) (v : V), o = .ref p ∧ i = .int k ∧ H p = some (.lst xs) ∧ 0 ≤ k ∧ xs[k.toNat]? = some v ∧ Q v H
/-! ### several names, each as its flag says -/
/-- values as slots take them -/
inductive RSs (T : Tb) (W : Wd) : List (Nat × Bool) → List AV → List V → Prop where
  | nil : RSs T W [] [] []
  | cons {i : Nat} {k : Bool} {y : AV} {w : V} {ts : List (Nat × Bool)} {ys : List AV} {ws : List V} (h : RS T W i y w) (t : RSs T W ts ys ws) : RSs T W ((i, k) :: ts) (y :: ys) (w :: ws)
/-- the reading of such values -/
def rPs (P : Pg) (call : CallT) (T : Tb) (Z : WX) (ts : List (Nat × Bool)) (es : Es) : TA := fun σ H Q => ∃ (W0 W : Wd) (s : Sl) (g : G) (f : List AV → G → Ev.R (Option AV × Sl)) (D : Ends), W.H = H ∧ LeS W0 W ∧ RSt T W s σ ∧ RG T W g ∧ DSS T W0 D Z ((evPs P call ts es s g).bind f) ∧
  ∀ ys g1 W1 ws, LeE W W1 → LeS W0 W1 → RSt T W1 s σ → RG T W1 g1 → RSs T W1 ts ys ws → DSS T W0 D Z (f ys g1) → Q ws W1.H
/-- names that take values -/
def rNm (is : List Nat) : TGs := fun vs σ H Q => vs.length = is.length ∧ Q ((is.zip vs).foldl (fun σ p => σ.set p.1 (some p.2)) σ) H
end
end Ev
end

section
set_option Elab.async false
set_option linter.all false
set_option maxRecDepth 100000
set_option maxHeartbeats 4000000
/-! enumerate(zip(a, b)): zip's pair stays handed out, so its next goes both ways. -/
namespace Ev
open PySem PySem.Spec PyProof.Rows L2
section
variable {prog : Program} {w : World} {A : Around} {E : Value → Shared → Prop} {s : Shared} {z TI TO i1 i2 : Addr} {fp1 fp2 : List Addr} {n1 n2 i : Nat} {P1 P2 : Nat → Value → Prop} {St1 St2 : Nat → Heap → Prop} {a1 a2 : Value}
/-- a zip whose pair may be handed out -/
def ZipAt (hp : Heap) (z TI TO : Addr) (v b : Value) : Prop :=
  hp.get? z = some { cls := .type "zip", dict := none, data := .fields #[v, b, .bool false, .ref TI, .ref TO], slots := #[] }
def OwnV (v : Value) : Prop := v = .none ∨ ∃ a : Nat, v = rawInt a
theorem ZipAt.is {h : Heap} {v b : Value} (hz : ZipAt s.heap z TI TO v b) : s.TypeIs (.ref z) "zip" := ⟨_, hz, rfl⟩
end
/-! ### walked -/
def ItezK (K : PySem.W.Frag) (b b' : Bool) (a a' : Addr) : L2.It :=
  ⟨fun i H => ∃ (xs ys : List V) (x y : V), SqK K b H a xs ∧ SqK K b' H a' ys ∧ xs[i]? = some x ∧ ys[i]? = some y,
    fun i H v H' => ∃ T T2 x y, v = .ref T2 ∧ H T = none ∧ upd H T (.tup [x, y]) T2 = none ∧ H' = upd (upd H T (.tup [x, y])) T2 (.tup [.int (i : Nat), .ref T]) ∧ (∀ xs, SqK K b H a xs → xs[i]? = some x) ∧ ∀ ys, SqK K b' H a' ys → ys[i]? = some y,
    fun i H => ∃ xs ys : List V, SqK K b H a xs ∧ SqK K b' H a' ys ∧ i = min xs.length ys.length⟩
structure EzSep (e z TI TO i1 i2 : Addr) : Prop where
  ez : e ≠ z
  eI : e ≠ TI
  eO : e ≠ TO
  e1 : e ≠ i1
  e2 : e ≠ i2
def EzSt (b b' : Bool) (a a' e z TI TO i1 i2 : Addr) (i : Nat) (h : Heap) : Prop :=
  (∃ old, IsEnum h e z ((i : Nat) : Int) old) ∧ (∃ v f, ZipAt h z TI TO v f ∧ OwnV v) ∧ IsTupOf2 h TI (.ref i1) (.ref i2) ∧ (∃ x y, IsTupOf2 h TO x y) ∧ ItK b h i1 a i ∧ ItK b' h i2 a' i
section
variable {prog : Program} {w : World} {A : Around} {E : Value → Shared → Prop} {s : Shared}
end
section
variable {T : Tb} {st : Bool} {W : Wd} {xs ys : List AV}
end
section
variable {P : Pg} {call : CallT} {T : Tb} {Z : WX} {X : Cx} {st : Bool} {σ : L2.St} {W : Wd} {s : Sl} {g : G} {a b : Expr} {ea eb : E} {p pp pos zpos tpos : Pos} {elts : List Expr} {kk : Nat}
end
end Ev
end

section
set_option Elab.async false
set_option linter.all false
set_option maxRecDepth 100000
set_option maxHeartbeats 8000000
/-! Tables of the module with text keys. -/
namespace Ev
open PySem PySem.Spec PyProof.Rows L2
section
variable {P : Pg} {call : CallT} {T : Tb} {Z : WX} {X : Cx} {pos p : Pos} {a : Expr} {ea : E} {y : PySem.Str} {d : Addr} {es : Array DictEntry} {n : Nat} {ks : List PySem.Str} {neg : Bool}
theorem RH.str {W : Wd} {s : PySem.Str} {v : V} (r : RH T W (.str s) v) : v = .str s := by cases r; rfl
end
end Ev
end

section
set_option Elab.async false
set_option linter.all false
set_option maxRecDepth 100000
set_option maxHeartbeats 8000000
/-! The compact syntax against the text: a Bool check, and what it gives. -/
namespace Ev
open PySem PySem.Spec PyProof.Rows L2
/-- what a global name stands for -/
inductive Gv where
  | fn (f : Nat) | cls (c : Nat) | blt | con (v : AV)
  /-- a table with text keys: all of them; what some of them hold -/
  | tab (ks : List PySem.Str) (kvs : List (PySem.Str × Int × Nat))
/-- how a call binds: f; values ahead; positional ones; keywords; the parameters' places -/
structure Sg where
  f : Nat
  nf : Nat
  n : Nat
  ks : List PySem.Str
  pm : List Nat
  deriving DecidableEq
/-- the names of a piece of text -/
structure Cc where
  P : Pg
  an : Nat → PySem.Str
  sgs : List Sg
  cids : List Nat
  gl : PySem.Str → Option Gv
  N : List PySem.Str
  sc : Scope
  fnc : PySem.Str → Bool
def visB : Option NameKind → Bool
  | some .local => true
  | some .cell => true
  | some .free => true
  | _ => false
def locB : Option NameKind → Bool
  | some .local => true
  | some .cell => true
  | _ => false
def isLoc : Option NameKind → Bool
  | some .local => true
  | _ => false
def glB : Option NameKind → Bool
  | some .globalImplicit => true
  | _ => false
def dbg : PySem.Str := "__debug__"
def cdc : PySem.Str := "__classdict__"
def nmn : PySem.Str := "__name__"
def Cc.glob (C : Cc) (x : PySem.Str) : Bool := glB (C.sc.names.lookup x) && !(x == dbg)
/-- the name is a builtin's -/
def Cc.blt (C : Cc) (x y : PySem.Str) : Bool := decide (x = y) && C.glob x && (match C.gl x with | some .blt => true | _ => false)
def noCall0 : Expr → Bool
  | .Call (.Name _ _) [] [] _ => false
  | _ => true
def noSet : Expr → Bool
  | .Set .. => false
  | _ => true
def rel (scope sc : Scope) : Scope := { scope with names := scope.names.map fun (n, k) => if (k == .free && sc.kind == .function && sc.names.lookup n == some .cell) then (n, .cell) else (n, k) }
def Cc.blk (C : Cc) (scope : Scope) : Cc := { C with sc := rel scope C.sc, fnc := fun x => scope.names.lookup x == some .cell }
/-- a text's name, of a built-in call -/
def Bf.nm : Bf → PySem.Str
  | .len => "len" | .abs => "abs" | .all => "all" | .any => "any" | .bool => "bool" | .divmod => "divmod" | .int => "int" | .list => "list" | .max => "max" | .min => "min" | .str => "str" | .sum => "sum" | .tuple => "tuple" | .lenset => "len" | .repr => "repr" | .sorted => "sorted"
def Bf.ok : Bf → Bool

  | .lenset => false
  | _ => true
def ownOf (N : List PySem.Str) (is : List Nat) : List (PySem.Str × Nat) := is.filterMap fun i => (N[i]?).map fun x => (x, i)
def chkTy (C : Cc) : TyT → Expr → Bool
  | .own d, .Name x _ => C.glob x && (match C.gl x with | some (.cls c) => decide (c = d) | _ => false) && (C.P.clss d).isSome
  | t, .Name x _ => (match t with
    | .int => C.blt x "int"
    | .bool => C.blt x "bool"
    | .str => C.blt x "str"
    | .tup => C.blt x "tuple"
    | .lst => C.blt x "list"
    | .own _ => false)
  | _, _ => false
def Es.isNil : Es → Bool
  | .nil => true
  | _ => false
mutual
/-- two constants -/
def eqC : AV → AV → Bool
  | .non, .non => true
  | .bl a, .bl b => a == b
  | .int i, .int j => decide (i = j)
  | .str x, .str y => decide (x = y)
  | .tup xs, .tup ys => eqCs xs ys
  | .fn f, .fn g => decide (f = g)
  | .cls f, .cls g => decide (f = g)
  | _, _ => false
def eqCs : List AV → List AV → Bool
  | [], [] => true
  | x :: xs, y :: ys => eqC x y && eqCs xs ys
  | _, _ => false
end
def chkLit (C : Cc) : AV → Expr → Bool
  | .int i, .Constant (.int j) _ _ => decide (i = j)
  | .bl a, .Constant (.bool b) _ _ => a == b
  | .non, .Constant .none _ _ => true
  | .str x, .Constant (.str y) _ _ => decide (x = y)
  | v, .Name x _ => C.glob x && (match C.gl x, v with
    | some (.con u), v => eqC u v
    | some (.fn f), .fn g => decide (f = g)
    | _, _ => false)
  | _, _ => false
def chkKw (kws : List Keyword) : Bool := kws.all fun k => k.arg.isSome
def Cc.sig (C : Cc) (f nf n : Nat) (ks : List PySem.Str) (dfl : List AV) (pm : List Nat) : Bool := dfl.isEmpty &&
  ((ks.isEmpty && pm.isEmpty && (match C.P.fns f with | some d => decide (nf + n = d.np) | none => false)) || C.sgs.contains ⟨f, nf, n, ks, pm⟩)
/-- every class's method of that name binds so -/
def Cc.sigM (C : Cc) (m n : Nat) (ks : List PySem.Str) (dfl : List AV) (pm : List Nat) : Bool := C.cids.all fun c => match C.P.clss c with
  | some k => (match k.meths.lookup m with
    | some f => C.sig f 1 n ks dfl pm
    | none => true)
  | none => true
def ArgsB (es' ks' : Es) (es : List Expr) (kws : List Keyword) : Bool :=
  es.all (fun e => !starred e) && chkKw kws && es'.plain && ks'.plain && (!es.isEmpty || (match es' with | .nil => true | _ => false)) && (!kws.isEmpty || (match ks' with | .nil => true | _ => false)) && decide (ks'.len = (kws.filterMap (·.arg)).length)
mutual
def chkTg (C : Cc) : Tg → Expr → Bool
  | .v i _, .Name x _ => decide (C.N[i]? = some x) && locB (C.sc.names.lookup x) && (C.fnc x || isLoc (C.sc.names.lookup x))
  | .tup ts, .Tuple es _ _ => chkTgs C ts es
  | _, _ => false
def chkTgs (C : Cc) : List Tg → List Expr → Bool
  | [], [] => true
  | t :: ts, e :: es => !starred e && chkTg C t e && chkTgs C ts es
  | _, _ => false
end
mutual
def chkE : Cc → E → Expr → Bool
  | C, .lit v, x => chkLit C v x
  | C, .var i, .Name x _ => decide (C.N[i]? = some x) && visB (C.sc.names.lookup x) && !(x == dbg) && !(x == cdc)
  | C, .tup es, .Tuple xs _ _ => chkEs C es xs
  | C, .lst _ es, .List xs _ => chkEs C es xs
  | C, .bin op a b, .BinOp x op' y _ => decide (op = op') && chkE C a x && chkE C b y
  | C, .neg a, .UnaryOp .USub x _ => chkE C a x
  | C, .cmp op a b, .Compare x [op'] [y] _ => decide (op = op') && !behindInMarks op y && chkE C a x && chkE C b y
  | C, .chain op1 op2 a b c, .Compare x [op1', op2'] [y, z] _ => decide (op1 = op1') && decide (op2 = op2') && !lastMarks [op1, op2] [y, z] && chkE C a x && chkE C b y && chkE C c z
  | C, .and a b, .BoolOp .And (x :: y :: r) p => chkE C a x && (match r with
    | [] => chkE C b y
    | _ => chkE C b (.BoolOp .And (y :: r) p))
  | C, .or a b, .BoolOp .Or (x :: y :: r) p => chkE C a x && (match r with
    | [] => chkE C b y
    | _ => chkE C b (.BoolOp .Or (y :: r) p))
  | C, .not a, .UnaryOp .Not x _ => chkE C a x
  | C, .ite c a b, .IfExp x y z _ => chkE C c x && chkE C a y && chkE C b z
  | C, .idx a i, .Subscript x y _ => !sliced y && chkE C a x && chkE C i y
  | C, .slc a lo hi, .Subscript x (.Slice l h none _) _ => chkE C a x && chkEo C lo l && chkEo C hi h
  | C, .comp _ t it cs e, .ListComp elt [⟨tg, iter, ifs, 0⟩] scope _ => noSet iter && chkIt C it tg iter && decide ((ownOf C.N (tgI t)).map (·.2) = tgI t) && blkC C.N C.sc scope (ownOf C.N (tgI t)) &&
      chkTg (C.blk scope) t tg && chkCs (C.blk scope) cs ifs && chkE (C.blk scope) e elt
  | C, .comp2 _ t it cs t' it' cs' e, .ListComp elt [⟨tg, iter, ifs, 0⟩, ⟨tg1, iter1, ifs1, 0⟩] scope _ => noSet iter && noSet iter1 && chkIt C it tg iter && decide ((ownOf C.N (tgI t ++ tgI t')).map (·.2) = tgI t ++ tgI t') && blkC C.N C.sc scope (ownOf C.N (tgI t ++ tgI t')) &&
      chkTg (C.blk scope) t tg && chkCs (C.blk scope) cs ifs && chkIt (C.blk scope) it' tg1 iter1 && chkTg (C.blk scope) t' tg1 && chkCs (C.blk scope) cs' ifs1 && chkE (C.blk scope) e elt
  | C, .lsc e, .Call (.Name f _) [x] [] _ => C.blt f "list" && !starred x && chkE C e x
  | C, .lrg1 a, .Call (.Name f _) [.Call (.Name r _) [x] [] _] [] _ => C.blt f "list" && C.blt r "range" && !starred x && chkE C a x
  | C, .lrg2 a b, .Call (.Name f _) [.Call (.Name r _) [x, y] [] _] [] _ => C.blt f "list" && C.blt r "range" && !starred x && !starred y && chkE C a x && chkE C b y
  | C, .lset a, .Call (.Name f _) [.Call (.Name r _) [x] [] _] [] _ => C.blt f "len" && C.blt r "set" && !starred x && chkE C a x
  | C, .isTL a, .Call (.Name f _) [x, .Tuple [.Name u _, .Name v _] _ _] [] _ => C.blt f "isinstance" && C.blt u "tuple" && C.blt v "list" && !starred x && chkE C a x
  | C, .trg1 a, .Call (.Name f _) [.Call (.Name r _) [x] [] _] [] _ => C.blt f "tuple" && C.blt r "range" && !starred x && chkE C a x
  | C, .rev a, .Subscript x (.Slice none none (some (.UnaryOp .USub (.Constant (.int 1) _ _) _)) _) _ => chkE C a x
  | C, .call f es ks dfl pm, .Call (.Name x _) xs kws _ => C.glob x && (match C.gl x with | some (.fn g) => decide (f = g) | _ => false) && (C.P.fns f).isSome && C.sig f 0 es.len (kws.filterMap (·.arg)) dfl pm && ArgsB es ks xs kws && chkEs C es xs && chkKs C ks kws
  | C, .callv e es, .Call (.Name x p) xs [] _ => xs.all (fun e => !starred e) && es.plain && (!xs.isEmpty || es.isNil) && chkE C e (.Name x p) && chkEs C es xs
  | C, .inT neg ks e, .Compare x [op] [.Name y p] _ => decide (op = if neg then .NotIn else .In) && !behindInMarks op (.Name y p) && C.glob y && (match C.gl y with | some (.tab k _) => decide (k = ks) | _ => false) && chkE C e x
  | C, .atT kvs e, .Subscript (.Name y _) i _ => !sliced i && C.glob y && (match C.gl y with | some (.tab _ k) => decide (k = kvs) | _ => false) && chkE C e i
  | C, .bf b es, .Call (.Name f _) (x :: xs) [] _ => b.ok && C.blt f b.nm && (x :: xs).all (fun e => !starred e) && chkEs C es (x :: xs)
  | C, .isi e t, .Call (.Name f _) [x, y] [] _ => C.blt f "isinstance" && !starred x && !starred y && chkTy C t y && chkE C e x
  | C, .make c _ es ks dfl pm, .Call (.Name x _) xs kws _ => C.glob x && (match C.gl x with | some (.cls g) => decide (c = g) | _ => false) && (match C.P.clss c with
      | some k => (match k.init with
        | some f => (C.P.fns f).isSome && C.sig f 1 es.len (kws.filterMap (·.arg)) dfl pm
        | none => false)
      | none => false) && ArgsB es ks xs kws && chkEs C es xs && chkKs C ks kws
  | C, .attr o a, .Attribute x nm _ => decide (nm = C.an a) && noCall0 x && chkE C o x
  | C, .meth o m es ks dfl pm, .Call (.Attribute x nm apos) xs kws pos => decide (nm = C.an m) && noCall0 x && decide (xs.length + kws.length < 29) && (apos.endLine == pos.line) && C.sigM m es.len (kws.filterMap (·.arg)) dfl pm && ArgsB es ks xs kws && chkE C o x && chkEs C es xs && chkKs C ks kws
  | _, _, _ => false
def chkEs : Cc → Es → List Expr → Bool
  | _, .nil, [] => true
  | C, .cons false e es, x :: xs => !starred x && chkE C e x && chkEs C es xs
  | C, .cons true e es, .Starred x _ :: xs => chkE C e x && chkEs C es xs
  | _, _, _ => false
def chkKs : Cc → Es → List Keyword → Bool
  | _, .nil, [] => true
  | C, .cons false e es, ⟨_, x, _⟩ :: xs => chkE C e x && chkKs C es xs
  | _, _, _ => false
def chkCs : Cc → Es → List Expr → Bool
  | _, .nil, [] => true
  | C, .cons _ e .nil, [x] => chkE C e x
  | _, _, _ => false
def chkEo : Cc → Eo → Option Expr → Bool
  | _, .none, none => true
  | C, .some e, some x => chkE C e x
  | _, _, _ => false
def chkIt : Cc → It → Expr → Expr → Bool
  | C, .val e, _, x => chkE C e x
  | C, .rng (.cons false a .nil), _, .Call (.Name f _) [x] [] _ => C.blt f "range" && !starred x && chkE C a x
  | C, .rng (.cons false a (.cons false b .nil)), _, .Call (.Name f _) [x, y] [] _ => C.blt f "range" && !starred x && !starred y && chkE C a x && chkE C b y
  | C, .enum e, .Tuple _ _ _, .Call (.Name f _) [x] [] _ => C.blt f "enumerate" && !starred x && chkE C e x
  | C, .zip a b, .Tuple _ _ _, .Call (.Name f _) [x, y] [] _ => C.blt f "zip" && !starred x && !starred y && chkE C a x && chkE C b y
  | C, .ez a b, .Tuple _ _ _, .Call (.Name f _) [.Call (.Name f2 _) [x, y] [] _] [] _ => C.blt f "enumerate" && C.blt f2 "zip" && !starred x && !starred y && chkE C a x && chkE C b y
  | _, _, _, _ => false
end
end Ev
end

section
set_option Elab.async false
set_option linter.all false
set_option maxRecDepth 100000
set_option maxHeartbeats 8000000
/-! The check is sound. -/
namespace Ev
open PySem PySem.Spec PyProof.Rows L2
/-- what a global name's value is -/
def GvOk (T : Tb) (mg : PySem.Str → Option Value) (x : PySem.Str) : Gv → Prop
  | .fn f => mg x = some (.ref (T.fa f))
  | .cls c => mg x = some (.ref (T.ca c))
  | .blt => mg x = none
  | .con a => ∃ u v, mg x = some u ∧ RelV v u ∧ ∀ W, RV T W a v
  | .tab ks kvs => ∃ d, mg x = some (.ref d) ∧ (∀ z ∈ ks, ∃ u, PySem.W.nsIn T.K d z = some (some u)) ∧ ∀ q ∈ kvs, ∃ u v, PySem.W.nsIn T.K d q.1 = some (some u) ∧ RelV v u ∧ ∀ W, RV T W (.tup [.int q.2.1, .fn q.2.2]) v
/-- the context is the text's -/
structure XOk (P : Pg) (T : Tb) (call : CallT) (k : Nat) (fd : Nat → FuncData) (ps : Nat → List PySem.Str) (C : Cc) (X : Cx) (Z : WX) : Prop where
  pg : C.P = P
  an : T.an = C.an
  N : X.N = C.N
  sc : X.env.scope = C.sc
  fnc : X.fn = C.fnc
  K : X.K = T.K
  nd : X.N.Nodup
  calm : X.calm = true
  gl : ∀ x gv, C.gl x = some gv → GvOk T X.mg x gv
  room : Room (k + 1) X.A
  F : FnsOk P T call X k fd ps
  kn : Kn P T X.K
  tk : Takes X Z
  sg : ∀ g ∈ C.sgs, BindAs T X.K (fd g.f) (ps g.f) g.nf g.n g.ks [] g.pm
  cid : ∀ c k, P.clss c = some k → c ∈ C.cids
  td : ∀ x ks kvs d, C.gl x = some (.tab ks kvs) → X.mg x = some (.ref d) → ∃ es n, KDict X.K X.w d es n
section
variable {P : Pg} {T : Tb} {call : CallT} {k : Nat} {fd : Nat → FuncData} {ps : Nat → List PySem.Str} {C : Cc} {X : Cx} {Z : WX}
theorem FnsOk.to {Y : Cx} (F : FnsOk P T call X k fd ps) (h1 : Y.prog = X.prog) (h2 : Y.w = X.w) (h3 : Y.K = X.K) (h4 : Y.mg = X.mg) (h5 : Y.base = X.base) : FnsOk P T call Y k fd ps :=
  ⟨by rw [h1, h2, h3, h4, h5]; exact F.ok, by rw [h3]; exact F.kp, F.np, by rw [h3]; exact F.bn, F.no, F.ar⟩
theorem XOk.blk (h : XOk P T call k fd ps C X Z) (s : Shared) (H : Hp) (scope : Scope) (C0 : Addr) (cl : List (PySem.Str × Addr)) (fp : List Addr) :
    XOk P T call k fd ps (C.blk scope) (X.blk s H scope (compEnvC scope cl C0 X.env) fp) (fun _ _ _ _ => False) where
  pg := h.pg
  an := h.an
  N := h.N
  sc := by
    show relabel scope X.env = rel scope C.sc
    rw [← h.sc]; rfl
  fnc := rfl
  K := h.K
  nd := h.nd
  calm := h.calm
  gl := h.gl
  room := h.room
  F := h.F.to rfl rfl rfl rfl rfl
  kn := h.kn
  tk := fun u s' x => by
    obtain ⟨a, B, sI, pins, σ, H, cls, d, _, _, _, _, _, _, _, _, w⟩ := x
    exact w
  sg := h.sg
  cid := h.cid
  td := h.td
theorem BindAs.ofB {f : FuncData} {pp : List PySem.Str} {nf n : Nat} (hb : Binds X.K f pp []) (hl : pp.length = nf + n) : BindAs T X.K f pp nf n [] [] [] := by
  intro s us ws hK h1 h2
  obtain rfl : ws = [] := List.eq_nil_of_length_eq_zero h2
  have := hb s us hK (by simpa using h1.trans hl.symm)
  rw [List.append_nil] at this
  refine ⟨us, this, h1.trans hl.symm, fun W af as cs r vs vs' rv rv' ra ra' e1 e2 => ?_⟩
  cases rv'
  cases ra'
  simp [permA] at e2
  subst e2
  exact ⟨vs, rv, ra⟩
theorem XOk.sig (h : XOk P T call k fd ps C X Z) {f nf n : Nat} {ks : List PySem.Str} {dfl : List AV} {pm : List Nat} (e : C.sig f nf n ks dfl pm = true) : BindAs T X.K (fd f) (ps f) nf n ks dfl pm := by
  unfold Cc.sig at e
  rw [Bool.and_eq_true] at e
  obtain ⟨e1, e2⟩ := e
  obtain rfl : dfl = [] := by simpa using e1
  rw [Bool.or_eq_true] at e2
  rcases e2 with e2 | e2
  · simp only [Bool.and_eq_true] at e2
    obtain ⟨⟨h1, h2⟩, h3⟩ := e2
    obtain rfl : ks = [] := by simpa using h1
    obtain rfl : pm = [] := by simpa using h2
    rw [h.pg] at h3
    cases hf : P.fns f with
    | none => rw [hf] at h3; cases h3
    | some d =>
      rw [hf] at h3
      exact .ofB (h.F.bn f d hf) ((h.F.np f d hf).trans (of_decide_eq_true h3).symm)
  · exact h.sg _ (List.contains_iff_mem.mp e2)
theorem XOk.sigM (h : XOk P T call k fd ps C X Z) {m n : Nat} {ks : List PySem.Str} {dfl : List AV} {pm : List Nat} (e : C.sigM m n ks dfl pm = true) (c : Nat) (kc : ClsD) (f : Nat) (hc : P.clss c = some kc) (hf : kc.meths.lookup m = some f) :
    BindAs T X.K (fd f) (ps f) 1 n ks dfl pm := by
  have := List.all_eq_true.mp e c (h.cid c kc hc)
  rw [h.pg, hc] at this
  simp only [hf] at this
  exact h.sig this
/-! ### targets -/
end
end Ev
end

section
set_option Elab.async false
set_option linter.all false
set_option maxRecDepth 100000
set_option maxHeartbeats 8000000
/-! The check of expressions is sound. -/
namespace Ev
open PySem PySem.Spec PyProof.Rows L2
def isBO : Expr → Bool
  | .BoolOp .. => true
  | _ => false
section
variable {P : Pg} {T : Tb} {call : CallT} {k : Nat} {fd : Nat → FuncData} {ps : Nat → List PySem.Str}
/-- a value's reading, and as a test -/
def SE (X : Cx) (x : Expr) (P : Pg) (call : CallT) (T : Tb) (Z : WX) (e : E) : Prop := PE X x (cE P call T Z e) ∧ PT X x (cT P call T Z e) ∧ (isBO x = true → PW X x (cT P call T Z e))
theorem SE.val {X : Cx} {x : Expr} {Z : WX} {e : E} (hK : X.K = T.K) (h : PE X x (cE P call T Z e)) (he : ∀ whole, isTrue x X.env whole = (do let v ← whole; standAt x.pos; holding [v] (truthy v))) (hb : isBO x = false) : SE X x P call T Z e :=
  ⟨h, snd_truth hK h he, fun z => by rw [hb] at z; cases z⟩
end
end Ev
end

section
set_option Elab.async false
set_option linter.all false
set_option maxRecDepth 100000
set_option maxHeartbeats 8000000
/-! Statements against the text. -/
namespace Ev
open PySem PySem.Spec PyProof.Rows L2
def noComp : Expr → Bool
  | .ListComp .. => false
  | .SetComp .. => false
  | .DictComp .. => false
  | _ => true
/-- a comprehension stored by its own block -/
def swB (sc : Scope) : Expr → Expr → Bool
  | .ListComp _ _ scope vp, .Name t p => isLoc (sc.names.lookup t) && (p.line == vp.line) && !(scope.names.any fun (n, k) => n == t && (k == .local || k == .cell))
  | _, _ => false
def isFun : ScopeKind → Bool
  | .function => true
  | _ => false
/-- swapsWith, of one target -/
def swE (sc : Scope) (v x : Expr) : Option Bool := match v, x with
  | .SetComp .., _ => none
  | .DictComp .., _ => none
  | v, x => some (swB sc v x)
def swNames (sc : Scope) (ts : List Expr) (line : Nat) : List PySem.Str := ts.filterMap fun
    | .Name id pos => if isLoc (sc.names.lookup id) && pos.line == line then some id else none
    | _ => none
/-- swappedStores, where it is no fault -/
def swS (sc : Scope) (ts vs : List Expr) : Option (Option (List PySem.Str)) :=
  if !(ts.length == 2 || ts.length == 3) || vs.length != ts.length then some none
  else if vs.any fun | .Starred .. => true | _ => false then some none
  else if (swNames sc ts ((ts.head?.map (·.pos.line)).getD 0)).length != ts.length || (swNames sc ts ((ts.head?.map (·.pos.line)).getD 0)).eraseDups.length != (swNames sc ts ((ts.head?.map (·.pos.line)).getD 0)).length then some none
  else if vs.all (foldedForSure 8) then some none
  else if vs.all (constantsAlone 8) then none
  else some (some (swNames sc ts ((ts.head?.map (·.pos.line)).getD 0)))
def isTupE : Expr → Bool
  | .Tuple .. => true
  | _ => false
def isListE : Expr → Bool
  | .List .. => true
  | _ => false
/-- no swapped stores -/
def swNo (sc : Scope) : Expr → Expr → Bool
  | .Tuple ts _ _, .Tuple vs _ _ => (match swS sc ts vs with | some none => true | _ => false)
  | .List _ _, _ => false
  | _, _ => true
/-! ### the check -/
def sliceB (C : Cc) (s : Nat) : Expr → Bool
  | .Name y _ => decide (C.N[s]? = some y) && visB (C.sc.names.lookup y) && !(y == dbg) && !(y == cdc)
  | _ => false
mutual
def chkTa : Cc → Ta → Expr → Bool
  | C, .t t, x => chkTg C t x
  | C, .own s i, .Subscript o y _ => !sliced y && sliceB C s o && chkE C i y
  | C, .idx a i, .Subscript o y _ => !sliced y && chkE C a o && chkE C i y
  | C, .tup ts, .Tuple es _ _ => es.all (fun e => !starred e) && chkTas C ts es
  | _, _, _ => false
def chkTas : Cc → Tas → List Expr → Bool
  | _, .nil, [] => true
  | C, .cons t ts, x :: xs => chkTa C t x && chkTas C ts xs
  | _, _, _ => false
end
def chkApp (C : Cc) (p1 p : Pos) (o x : Expr) : Bool := !starred x && noCall0 o && (p1.endLine == p.line)
def app : PySem.Str := "append"
def insN : PySem.Str := "insert"
/-- a comprehension that its block stores -/
def chkLc (C : Cc) (i : Nat) (y : PySem.Str) : E → Expr → Bool
  | .comp _ t' it cs e', .ListComp elt [⟨tg, iter, ifs, 0⟩] scope _ => decide (C.N[i]? = some y) && isLoc (C.sc.names.lookup y) && noSet iter && chkIt C it tg iter && decide ((ownOf C.N (tgI t')).map (·.2) = tgI t') && blkC C.N C.sc scope (ownOf C.N (tgI t')) &&
      chkTg (C.blk scope) t' tg && chkCs (C.blk scope) cs ifs && chkE (C.blk scope) e' elt
  | .comp2 _ t' it cs t2 it2 cs2 e', .ListComp elt [⟨tg, iter, ifs, 0⟩, ⟨tg1, iter1, ifs1, 0⟩] scope _ => decide (C.N[i]? = some y) && isLoc (C.sc.names.lookup y) && noSet iter && noSet iter1 && chkIt C it tg iter && decide ((ownOf C.N (tgI t' ++ tgI t2)).map (·.2) = tgI t' ++ tgI t2) &&
      blkC C.N C.sc scope (ownOf C.N (tgI t' ++ tgI t2)) && chkTg (C.blk scope) t' tg && chkCs (C.blk scope) cs ifs && chkIt (C.blk scope) it2 tg1 iter1 && chkTg (C.blk scope) t2 tg1 && chkCs (C.blk scope) cs2 ifs1 && chkE (C.blk scope) e' elt
  | _, _ => false
def chkLcT (C : Cc) (e : E) (v : Expr) : Ta → Expr → Bool
  | .t (.v i _), .Name y _ => chkLc C i y e v
  | _, _ => false
def chkAsg1 (C : Cc) (t : Ta) (e : E) (x v : Expr) : Bool := !starred x && (match swE C.sc v x with
  | some false => swNo C.sc x v && chkTa C t x && chkE C e v
  | some true => chkLcT C e v t x
  | none => false)
def chkFld (C : Cc) (o : E) (a : Nat) (e : E) (v : Expr) : Expr → Bool
  | .Attribute x nm p1 => decide (nm = C.an a) && decide (swE C.sc v (.Attribute x nm p1) = some false) && chkE C o x && chkE C e v
  | _ => false
def chkAsg (C : Cc) (e : E) (x v : Expr) : Ta → Bool
  | .attr o a => chkFld C o a e v x
  | t => chkAsg1 C t e x v
def chkPar (C : Cc) (es : Es) : List Nat → Expr → Expr → Bool
  | [i, j], .Tuple [.Name x px, .Name y py] _ _, .Tuple [a, b] _ _ => decide (C.N[i]? = some x) && decide (C.N[j]? = some y) && decide (i ≠ j) && isLoc (C.sc.names.lookup x) && isLoc (C.sc.names.lookup y) &&
      decide (swS C.sc [.Name x px, .Name y py] [a, b] = some (some [x, y])) && chkEs C es [a, b]
  | [i, j, l], .Tuple [.Name x px, .Name y py, .Name z pz] _ _, .Tuple [a, b, c] _ _ => decide (C.N[i]? = some x) && decide (C.N[j]? = some y) && decide (C.N[l]? = some z) && decide (i ≠ j) && decide (i ≠ l) && decide (j ≠ l) &&
      isLoc (C.sc.names.lookup x) && isLoc (C.sc.names.lookup y) && isLoc (C.sc.names.lookup z) && decide (swS C.sc [.Name x px, .Name y py, .Name z pz] [a, b, c] = some (some [x, y, z])) && chkEs C es [a, b, c]
  | _, _, _ => false
def chkPs (C : Cc) : List (Nat × Bool) → Es → List Expr → Bool
  | [], .nil, [] => true
  | _ :: ts, .cons false e es, v :: vs => !starred v && chkE C e v && chkPs C ts es vs
  | _, _, _ => false
def chkNm (C : Cc) : List (Nat × Bool) → List Expr → Bool
  | [], [] => true
  | (i, _) :: ts, .Name x _ :: xs => decide (C.N[i]? = some x) && locB (C.sc.names.lookup x) && (C.fnc x || isLoc (C.sc.names.lookup x)) && chkNm C ts xs
  | _, _ => false
def chkSw (C : Cc) : List (Nat × Bool) → List Expr → List Expr → Bool
  | [(i, _), (j, _)], [.Name x px, .Name y py], [u, v] => decide (i ≠ j) && isLoc (C.sc.names.lookup x) && isLoc (C.sc.names.lookup y) && decide (swS C.sc [.Name x px, .Name y py] [u, v] = some (some [x, y]))
  | [(i, _), (j, _), (l, _)], [.Name x px, .Name y py, .Name z pz], [u, v, w] => decide (i ≠ j) && decide (i ≠ l) && decide (j ≠ l) && isLoc (C.sc.names.lookup x) && isLoc (C.sc.names.lookup y) && isLoc (C.sc.names.lookup z) && decide (swS C.sc [.Name x px, .Name y py, .Name z pz] [u, v, w] = some (some [x, y, z]))
  | _, _, _ => false
def chkParP (C : Cc) (ts : List (Nat × Bool)) (es : Es) : Expr → Expr → Bool
  | .Tuple xs k p, .Tuple vs k2 p2 => chkNm C ts xs && chkPs C ts es vs && (chkSw C ts xs vs || (decide (ts.length ≤ 1000) && decide (swS C.sc xs vs = some none) && decide (swE C.sc (.Tuple vs k2 p2) (.Tuple xs k p) = some false)))
  | _, _ => false
def chkPass : Stmt → Bool
  | .Pass _ => true
  | .Expr (.Constant (.str _) _ _) _ => true
  | _ => false
mutual
def chkS : Cc → S → Stmt → Bool
  | _, .pass, x => chkPass x
  | C, .asg t e, .Assign [x] v _ => chkAsg C e x v t
  | C, .par is es, .Assign [x] v _ => chkPar C es is x v
  | C, .aug i op e, .AugAssign (.Name x _) op' v _ => decide (op = op') && decide (C.N[i]? = some x) && locB (C.sc.names.lookup x) && (C.fnc x || isLoc (C.sc.names.lookup x)) && chkE C e v
  | C, .ext i e, .AugAssign (.Name x _) .Add v _ => decide (C.N[i]? = some x) && locB (C.sc.names.lookup x) && (C.fnc x || isLoc (C.sc.names.lookup x)) && chkE C e v
  | C, .expr e, .Expr x _ => noComp x && chkE C e x
  | C, .app o e, .Expr (.Call (.Attribute x nm p1) [v] [] p) _ => decide (nm = app) && chkApp C p1 p x v && chkE C o x && chkE C e v
  | C, .augI i k e, .AugAssign (.Subscript o y _) .Add v _ => !sliced y && sliceB C i o && chkE C k y && chkE C e v
  | C, .parO i j a b, .Assign [.Tuple [.Name x px, .Name y py] _ _] (.Tuple [u, v] _ _) _ => decide (C.N[i]? = some x) && decide (C.N[j]? = some y) && decide (i ≠ j) && isLoc (C.sc.names.lookup x) && isLoc (C.sc.names.lookup y) &&
      decide (swS C.sc [.Name x px, .Name y py] [u, v] = some (some [x, y])) && !starred u && !starred v && chkE C a u && chkE C b v
  | C, .parP ts es, .Assign [x] v _ => chkParP C ts es x v
  | C, .insO s k e, .Expr (.Call (.Attribute x nm p1) [y, v] [] p) _ => decide (nm = insN) && chkApp C p1 p x v && !starred y && sliceB C s x && chkE C k y && chkE C e v
  | C, .appO s e, .Expr (.Call (.Attribute x nm p1) [v] [] p) _ => decide (nm = app) && chkApp C p1 p x v && sliceB C s x && chkE C e v
  | C, .ifs c a b, .If x y z _ => chkE C c x && chkSs C a y && chkSs C b z
  | C, .whl c b, .While x y [] _ => chkE C c x && chkSs C b y
  | C, .fors t it b, .For tg iter y [] _ => noSet iter && chkIt C it tg iter && chkTg C t tg && chkSs C b y
  | C, .ret e, .Return (some x) _ => chkE C e x
  | _, .retN, .Return none _ => true
  | C, .retT i, .Return (some x) _ => sliceB C i x
  | _, .no, _ => true
  | _, _, _ => false
def chkSs : Cc → Ss → List Stmt → Bool
  | _, .nil, [] => true
  | C, .cons (.frz _) r, xs => chkSs C r xs
  | C, .cons s r, x :: xs => chkS C s x && chkSs C r xs
  | _, _, _ => false
end
section
variable {P : Pg} {T : Tb} {call : CallT} {k : Nat} {fd : Nat → FuncData} {ps : Nat → List PySem.Str} {C : Cc} {X : Cx} {Z : WX}
end
end Ev
end

section
set_option Elab.async false
set_option linter.all false
set_option maxRecDepth 100000
set_option maxHeartbeats 8000000
/-! The check of statements is sound. -/
namespace Ev
open PySem PySem.Spec PyProof.Rows L2
section
variable {P : Pg} {T : Tb} {call : CallT} {k : Nat} {fd : Nat → FuncData} {ps : Nat → List PySem.Str} {C : Cc} {X : Cx} {Z : WX}
end
end Ev
end

section
set_option Elab.async false
set_option linter.all false
set_option maxRecDepth 100000
set_option maxHeartbeats 8000000
/-! The text's defs do what the evaluator says. -/
namespace Ev
open PySem PySem.Spec PyProof.Rows L2
/-- what is known of the text -/
structure Law (P : Pg) (T : Tb) (K : PySem.W.Frag) (mg : PySem.Str → Option Value) (fd : Nat → FuncData) (ps : Nat → List PySem.Str) (C0 : Cc) : Prop where
  pg : C0.P = P
  an : T.an = C0.an
  kt : K = T.K
  gl : ∀ x gv, C0.gl x = some gv → GvOk T mg x gv
  kn : Kn P T K
  sg : ∀ g ∈ C0.sgs, BindAs T K (fd g.f) (ps g.f) g.nf g.n g.ks [] g.pm
  cid : ∀ c k, P.clss c = some k → c ∈ C0.cids
  bn : ∀ f d, P.fns f = some d → Binds K (fd f) (ps f) []
  np : ∀ f d, P.fns f = some d → (ps f).length = d.np
  fns : ∀ f d, P.fns f = some d → ∃ (x qual : PySem.Str) (params : Arguments) (body : List Stmt) (scope : Scope) (N : List PySem.Str) (dvs : List V) (kws : List (PySem.Str × V)), FunD K x qual params body scope dvs kws (T.fa f) (fd f) ∧ FnScope N (ps f) scope ∧ N.length = d.ns ∧
    chkSs { C0 with N := N, sc := scope, fnc := fun _ => true } d.body body = true
section
variable {P : Pg} {T : Tb} {K : PySem.W.Frag} {mg : PySem.Str → Option Value} {fd : Nat → FuncData} {ps : Nat → List PySem.Str} {C0 : Cc}
/-- the level of n calls deep -/
def lv : Nat → Nat
  | 0 => 0
  | n + 1 => lv n + 2
theorem RA.slot {W : Wd} {i : Nat} {x : AV} {v : V} (r : RA T W x v) : RS T W i x v := by
  cases x with
  | own xs => exact r.elim
  | bor k xs => exact r
  | _ => exact RV.sl r
/-- the module's tables in a world -/
def TabOk (w : World) (K : PySem.W.Frag) (mg : PySem.Str → Option Value) (C0 : Cc) : Prop := ∀ x ks kvs d, C0.gl x = some (.tab ks kvs) → mg x = some (.ref d) → ∃ es n, KDict K w d es n
end
end Ev
end

section
set_option Elab.async false
set_option linter.all false
set_option maxRecDepth 100000
set_option maxHeartbeats 8000000
/-! How plain defs bind. -/
namespace Ev
open PySem PySem.Spec PyProof.Rows L2
end Ev
end

section
set_option Elab.async false
set_option linter.all false
set_option maxRecDepth 100000
set_option maxHeartbeats 8000000
/-! How plain defs bind keywords. -/
namespace Ev
open PySem PySem.Spec PyProof.Rows L2
end Ev
end

section
set_option Elab.async false
set_option linter.all false
set_option maxRecDepth 100000
set_option maxHeartbeats 8000000
/-! Calls' patterns. -/
namespace Ev
open PySem PySem.Spec PyProof.Rows L2
section
variable {T : Tb} {W : Wd}
theorem RAs.get : ∀ {xs : List AV} {vs : List V} {i : Nat} {x : AV}, RAs T W xs vs → xs[i]? = some x → ∃ v, vs[i]? = some v ∧ RA T W x v
  | _, _, _, _, .nil, e => by simp at e
  | _, _, 0, _, .cons r _, e => by simp at e; subst e; exact ⟨_, rfl, r⟩
  | _, _, i + 1, x, .cons _ t, e => by
    obtain ⟨v, h1, h2⟩ := RAs.get (i := i) (x := x) t (by simpa using e)
    exact ⟨v, by simpa using h1, h2⟩
end
/-- a pattern fits the parameters -/
def sgB (ps : List PySem.Str) (g : Sg) : Bool := decide (g.nf ≤ 1) && decide (g.nf + g.n ≤ ps.length) && decide ((ps.take (g.nf + g.n) ++ g.ks).Nodup) && (g.ks.all fun k => decide (k ∈ ps)) && (ps.all fun p => decide (p ∈ ps.take (g.nf + g.n) ++ g.ks)) && !g.pm.isEmpty &&
  decide ((List.range g.nf ++ g.pm.map (· + g.nf)).map (fun i => (ps.take (g.nf + g.n) ++ g.ks)[i]?) = ps.map some)
end Ev
end

section
set_option Elab.async false
set_option linter.all false
set_option maxRecDepth 100000
set_option maxHeartbeats 8000000
/-! A law's text as data; what the head's run tells of it. -/
namespace Ev
open PySem PySem.Spec PyProof.Rows L2
/-- where a def stands -/
inductive Ad where
  | g (x : PySem.Str)
  | m (c x : PySem.Str)
  | p (c x : PySem.Str)
def prAd (K : PySem.W.Frag) (C : Addr) (x : PySem.Str) : Addr := match PySem.W.recIn K (He.ma K C x) "property" with
  | some (.ref g :: _) => g
  | _ => 0
def Ad.at (K : PySem.W.Frag) : Ad → Addr
  | .g x => He.ga K x
  | .m c x => He.ma K (He.ga K c) x
  | .p c x => prAd K (He.ga K c) x
/-- a def of the text -/
structure DfI where
  id : Nat
  ad : Ad
  nm : PySem.Str
  qual : PySem.Str
  params : Arguments
  body : List Stmt
  scope : Scope
  N : List PySem.Str
  ps : List PySem.Str
  e : FnD
structure ClI where
  id : Nat
  nm : PySem.Str
  k : ClsD
structure TxI where
  fns : List DfI
  cls : List ClI
  gls : List (PySem.Str × Gv)
  sgs : List Sg
  an : Nat → PySem.Str
  xa : Nat → PySem.Str
def TxI.fn (X : TxI) (f : Nat) : Option DfI := X.fns.find? fun i => Nat.beq i.id f
def TxI.cl (X : TxI) (c : Nat) : Option ClI := X.cls.find? fun i => Nat.beq i.id c
def TxI.P (X : TxI) : Pg := ⟨fun f => (X.fn f).map (·.e), fun c => (X.cl c).map (·.k)⟩
def TxI.fa (X : TxI) (K : PySem.W.Frag) (f : Nat) : Addr := match X.fn f with
  | some i => i.ad.at K
  | none => 0
def TxI.ca (X : TxI) (K : PySem.W.Frag) (c : Nat) : Addr := match X.cl c with
  | some i => He.ga K i.nm
  | none => 0
def TxI.T (X : TxI) (K : PySem.W.Frag) : Tb := ⟨K, X.fa K, X.ca K, X.an, X.xa⟩
def TxI.C0 (X : TxI) : Cc := ⟨X.P, X.an, X.sgs, X.cls.map (·.id), fun x => X.gls.lookup x, [], ⟨.function, [], false, false, []⟩, fun _ => true⟩
def fdNone : FuncData := PySem.W.fnOf "" "" ⟨[], [], none, [], [], none, []⟩ [] ⟨.function, [], false, false, []⟩ .none .none .none .none none .none .none
def fdAt (K : PySem.W.Frag) (a : Addr) : FuncData := match K.lookup a with
  | some ⟨_, _, .func fd, _⟩ => fd
  | _ => fdNone
def TxI.fd (X : TxI) (K : PySem.W.Frag) (f : Nat) : FuncData := fdAt K (X.fa K f)
def TxI.ps (X : TxI) (f : Nat) : List PySem.Str := match X.fn f with
  | some i => i.ps
  | none => []
/-! ### the checks that ask for the text alone -/
def scB (N ps : List PySem.Str) (sc : Scope) : Bool := isFun sc.kind && !sc.isCoroutine && !sc.isGenerator && decide N.Nodup && decide (N.take ps.length = ps) && (ps.all fun x => locB (sc.names.lookup x)) && (sc.names.all fun y => decide (y.2 ≠ .free))
def parB (ps : List PySem.Str) (p : Arguments) : Bool := p.posonlyargs.isEmpty && p.vararg.isNone && p.kwonlyargs.isEmpty && p.kwarg.isNone && decide (p.args.map (·.arg) = ps)
/-- one def's text is its compact form's -/
def fnB (X : TxI) (i : DfI) : Bool := scB i.N i.ps i.scope && parB i.ps i.params && decide (i.N.length = i.e.ns) && decide (i.ps.length = i.e.np) && decide i.ps.Nodup && chkSs { X.C0 with N := i.N, sc := i.scope, fnc := fun _ => true } i.e.body i.body
def sgsB (X : TxI) : Bool := X.sgs.all fun g => match X.fn g.f with
  | some i => sgB i.ps g
  | none => false
/-! ### the facts that the run tells -/
mutual
def conV (K : PySem.W.Frag) : AV → Value → Bool
  | .non, .none => true
  | .bl a, .bool b => a == b
  | .int i, .int j _ => decide (i = j)
  | .str x, .str y _ => decide (x = y)
  | .tup xs, .ref a => match K.lookup a with
    | some ⟨.type c, _, .seq its _, _⟩ => decide (c = "tuple") && decide (its.size ≤ PySem.sizeLine) && conVs K xs its.toList
    | _ => false
  | _, _ => false
def conVs (K : PySem.W.Frag) : List AV → List Value → Bool
  | [], [] => true
  | x :: xs, u :: us => conV K x u && conVs K xs us
  | _, _ => false
end
/-- what a table's key holds: a pair of an int and a def -/
def tupB (X : TxI) (K : PySem.W.Frag) (q : Int × Nat) : Value → Bool
  | .ref a => match K.lookup a with
    | some ⟨.type c, _, .seq its _, _⟩ => decide (c = "tuple") && (match its.toList with
      | [.int j _, .ref b] => decide (q.1 = j) && decide (b = X.fa K q.2)
      | _ => false)
    | _ => false
  | _ => false
def glB1 (X : TxI) (K : PySem.W.Frag) (p : PySem.Str × Gv) : Bool := match p.2 with
  | .fn f => He.eqO (PySem.W.nsIn K mainGlobals p.1) (some (some (.ref (X.fa K f))))
  | .cls c => He.eqO (PySem.W.nsIn K mainGlobals p.1) (some (some (.ref (X.ca K c))))
  | .blt => He.eqO (PySem.W.nsIn K mainGlobals p.1) (some none)
  | .con v => match PySem.W.nsIn K mainGlobals p.1 with
    | some (some u) => conV K v u
    | _ => false
  | .tab ks kvs => match PySem.W.nsIn K mainGlobals p.1 with
    | some (some (.ref d)) => (ks.all fun z => match PySem.W.nsIn K d z with
      | some (some _) => true
      | _ => false) && kvs.all fun q => match PySem.W.nsIn K d q.1 with
        | some (some u) => tupB X K q.2 u
        | _ => false
    | _ => false
def clB0 (K : PySem.W.Frag) (C : Addr) : Bool := PySem.W.plainGet K C Str.empty && PySem.W.hasDictIn K C && PySem.W.plainOver K C && He.eqO (PySem.W.findIn K (.ref C) "__setattr__") (some (some (.builtin "object.__setattr__"))) &&
  He.eqO (PySem.W.findIn K (.ref C) "__class__") (some (some (.builtin "object.__class__"))) && decide (PySem.W.mroIn K C (.type "object") = some true) &&
  tys.all fun t => decide (PySem.W.kitOne K (.ref C) (.type t) = some false) && decide (PySem.W.kitOne K (.type t) (.ref C) = some false)
def mtB (K : PySem.W.Frag) (C : Addr) (m : PySem.Str) (f : Addr) : Bool := He.eqO (PySem.W.findIn K (.ref C) m) (some (some (.ref f))) && PySem.W.isFn K (.ref f) && PySem.W.keepIn K (.ref f)
def prB (K : PySem.W.Frag) (C : Addr) (m : PySem.Str) (f : Addr) : Bool := He.eqO (PySem.W.findIn K (.ref C) m) (some (some (.ref (He.ma K C m)))) && decide (PySem.W.specialIn K (.ref (He.ma K C m)) "__get__" = some (some (.builtin "property.__get__"))) && decide (PySem.W.takesIn K (.ref (He.ma K C m)) = some true) &&
  (match PySem.W.recIn K (He.ma K C m) "property" with
    | some (u :: _) => decide (u = .ref f)
    | _ => false)
def mkB (K : PySem.W.Frag) (C f : Addr) : Bool := PySem.W.makesIn K C && He.eqO (PySem.W.findIn K (.ref C) "__init__") (some (some (.ref f))) && PySem.W.isFn K (.ref f) && PySem.W.keepIn K (.ref C)
def clB (X : TxI) (K : PySem.W.Frag) (i : ClI) : Bool := clB0 K (He.ga K i.nm) && (i.k.atts.all fun a => He.eqO (PySem.W.findIn K (.ref (He.ga K i.nm)) (X.an a)) (some none)) && (i.k.meths.all fun p => mtB K (He.ga K i.nm) (X.an p.1) (X.fa K p.2)) &&
  (i.k.props.all fun p => prB K (He.ga K i.nm) (X.an p.1) (X.fa K p.2)) && (match i.k.init with | some f => mkB K (He.ga K i.nm) (X.fa K f) | none => true) &&
  X.cls.all fun j => decide (PySem.W.kitOne K (.ref (He.ga K i.nm)) (.ref (He.ga K j.nm)) = some (X.P.sub i.id j.id))
def fnK (K : PySem.W.Frag) (i : DfI) : Bool := PySem.W.keepIn K (.ref (i.ad.at K)) && (match K.lookup (i.ad.at K) with
  | some ⟨_, _, .func fd, _⟩ => PySem.W.codeIn K fd.code i.qual && He.dflB K fd.defaults []
  | _ => false)
def TxI.chkK (X : TxI) (K : PySem.W.Frag) : Bool := X.fns.all (fnK K) && X.gls.all (glB1 X K) && X.cls.all (clB X K) &&
  (X.cls.isEmpty || (decide (PySem.W.specialIn K (.builtin "object.__class__") "__get__" = some (some (.builtin "getset_descriptor.__get__"))) && decide (PySem.W.takesIn K (.builtin "object.__class__") = some true)))
def fnWA (K : PySem.W.Frag) (a : Addr) : He.FnW := match K.lookup a with
  | some ⟨_, _, .func fd, _⟩ => some (fd.name, fd.qualname, fd.params, fd.body, fd.scope, fd.globals, fd.closure, fd.builtins)
  | _ => none
def DfI.val (d : DfI) : He.FnW := some (d.nm, d.qual, d.params, .stmts d.body, d.scope, mainGlobals, [], builtinsNs)
end Ev
end

section
set_option Elab.async false
set_option linter.all false
set_option maxRecDepth 100000
set_option maxHeartbeats 8000000
/-! From the checks and the run's facts to a law. -/
namespace Ev
open PySem PySem.Spec PyProof.Rows L2
/-- what the checks of the text say -/
structure TxOk (X : TxI) : Prop where
  fns : ∀ i ∈ X.fns, fnB X i = true
  sgs : sgsB X = true
  an : ∀ a b, X.an a = X.an b → a = b
end Ev
end

section
set_option Elab.async false
set_option linter.all false
set_option maxRecDepth 100000
set_option maxHeartbeats 8000000
/-! The end of a law. -/
namespace Ev
open PySem PySem.Spec PyProof.Rows L2
def TxI.obs (X : TxI) (K : PySem.W.Frag) : He.AlD := (X.chkK K, X.fns.map fun i => fnWA K (i.ad.at K))
def TxI.val (X : TxI) : He.AlD := (true, X.fns.map DfI.val)
def tabOf (p : PySem.Str × Gv) : Option (PySem.Str × List PySem.Str) := match p.2 with
  | .tab ks _ => some (p.1, ks)
  | _ => none
def TxI.tabs (X : TxI) : List (PySem.Str × List PySem.Str) := X.gls.filterMap tabOf
def TxI.obsT (X : TxI) (K : PySem.W.Frag) : He.AlT := (X.obs K, X.tabs.map fun t => He.dicW K (He.ga K t.1))
def TxI.valT (X : TxI) (w : World) : He.AlT := (X.val, X.tabs.map fun t => some (He.keysIn w.params t.2))
def TxI.obsG (X : TxI) (n : Nat) (g : Addr → Option Obj) : He.AlT := X.obsT (He.frG g (He.asD g n))
def TxI.hook (X : TxI) (n : Nat) : PySem.W.Hook where
  α := He.AlT
  obs := fun s => X.obsG n s.heap.get?
  val := fun w => X.valT w
  says := fun w h => ∃ K : PySem.W.Frag, K.In h ∧ X.obsT K = X.valT w
  of := fun _ _ e => ⟨_, He.frG_in, e⟩
  keeps := fun _ _ _ ⟨K, hK, c⟩ k => ⟨K, PySem.W.Frag.In.keeps hK k, c⟩
theorem obsG_eq {X : TxI} {n : Nat} {g : Addr → Option Obj} {s : Shared} (h : ∀ a, g a = s.heap.get? a) : X.obsG n g = (X.hook n).obs s := by
  have e : g = s.heap.get? := funext h
  rw [e]; rfl
/-- a world that answers b at t -/
def ftW (w : World) (b : Bool) (t : String) : World := { w with params := { w.params with followText := fun s => if s = t then b else w.params.followText s } }
theorem ftW_eq {w : World} {b : Bool} {t : String} (h : w.params.followText t = b) : ftW w b t = w := by
  have e : (fun s => if s = t then b else w.params.followText s) = w.params.followText := by
    funext s
    by_cases e : s = t
    · rw [if_pos e, e, h]
    · rw [if_neg e]
  unfold ftW
  rw [e]
/-- the head's run where it asks at t -/
theorem run_ft {r : PySem.W.OpenRow} {q : Program} {H : PySem.W.Hook} {ob : PySem.W.SharedT → H.α} {M : Nat} {loose : List PySem.Str} (t : String) (h1 : ∀ w, HandSHeadRun.RunEq r q H ob M loose (ftW w true t)) (h2 : ∀ w, HandSHeadRun.RunEq r q H ob M loose (ftW w false t)) (w : World) : HandSHeadRun.RunEq r q H ob M loose w := by
  cases h : w.params.followText t with
  | true => have := h1 w; rw [ftW_eq h] at this; exact this
  | false => have := h2 w; rw [ftW_eq h] at this; exact this
end Ev
namespace Ev
open PySem
/-- attributes' names: a list, beyond it long names -/
def anF (L : List PySem.Str) (n : Nat) : PySem.Str := match L[n]? with
  | some x => x
  | none => ⟨(List.replicate (n + 100) 120).toArray⟩
theorem anF_inj {L : List PySem.Str} (h1 : L.Nodup) (h2 : ∀ x ∈ L, x.cps.size < 100) (a b : Nat) (h : anF L a = anF L b) : a = b := by
  unfold anF at h
  cases ha : L[a]? with
  | some x =>
    rw [ha] at h
    cases hb : L[b]? with
    | some y =>
      rw [hb] at h
      simp only [] at h
      subst h
      obtain ⟨l1, e1⟩ := List.getElem?_eq_some_iff.mp ha
      obtain ⟨l2, e2⟩ := List.getElem?_eq_some_iff.mp hb
      exact (List.getElem_inj h1).mp (e1.trans e2.symm)
    | none =>
      rw [hb] at h
      simp only [] at h
      have := h2 x (List.mem_of_getElem? ha)
      rw [h] at this
      simp at this
      omega
  | none =>
    rw [ha] at h
    cases hb : L[b]? with
    | some y =>
      rw [hb] at h
      simp only [] at h
      have := h2 y (List.mem_of_getElem? hb)
      rw [← h] at this
      simp at this
      omega
    | none =>
      rw [hb] at h
      simp only [] at h
      have h := congrArg (fun z : PySem.Str => z.cps.size) h
      simp at h
      omega
def anB (L : List PySem.Str) : Bool := decide L.Nodup && L.all fun x => decide (x.cps.size < 100)
theorem anB_ok {L : List PySem.Str} (h : anB L = true) : ∀ a b, anF L a = anF L b → a = b := by
  unfold anB at h
  rw [Bool.and_eq_true] at h
  exact anF_inj (of_decide_eq_true h.1) fun x hx => of_decide_eq_true (List.all_eq_true.mp h.2 x hx)
end Ev
end

section
set_option Elab.async false
set_option linter.all false
set_option maxRecDepth 100000
set_option maxHeartbeats 0
open PySem PySem.Spec PyProof.Rows L2 Ev
namespace My
def top (i : Nat) : Stmt := PySem.Challenge.pw_placedbylengths_k44_whole_papers_of_ball.main.body.getD i (.Pass ⟨0, 0, 0, 0⟩)
/-- law -/
def e0 : Ev.FnD := ⟨1, 2, false, (.cons (.ret (.bf .all (.cons false (.comp false (.v 1 false) (.rng (.cons false (.bf .max (.cons false (.lit (.int 2)) (.cons false (.bf .min (.cons false (.bf .len (.cons false (.var 0) .nil)) (.cons false (.lit (.int 5)) .nil))) .nil))) .nil)) .nil (.call 2 (.cons false (.call 180 (.cons false (.var 0) (.cons false (.var 1) .nil)) .nil [] []) .nil) .nil [] [])) .nil))) .nil)⟩
abbrev s0 : Stmt := top 89
def d0 : DfI := ⟨0, .g "law", "law", "law", defArgs s0, defBody s0, defScope s0, ["_law_cells", "_law_k"], ["_law_cells"], e0⟩
/-- _law_kettle -/
def e180 : Ev.FnD := ⟨2, 5, false, (.cons (.asg (.t (.v 2 false)) (.ite (.cmp .Lt (.var 1) (.bf .len (.cons false (.var 0) .nil))) (.bf .int (.cons false (.idx (.var 0) (.var 1)) .nil)) (.bin .Add (.bin .Mult (.lit (.int 151)) (.var 1)) (.lit (.int 47))))) (.cons (.asg (.t (.v 3 false)) (.bin .Add (.lit (.int 30011)) (.bin .Mult (.lit (.int 919)) (.var 1)))) (.cons (.fors (.v 4 false) (.val (.slc (.var 0) .none (.some (.lit (.int 16))))) (.cons (.asg (.t (.v 3 false)) (.bin .Mod (.bf .int (.cons false (.bin .Add (.bin .Mult (.var 3) (.lit (.int 41381))) (.bin .Mod (.bf .int (.cons false (.var 4) .nil)) (.lit (.int 2147483497)))) .nil)) (.lit (.int 2147483497)))) .nil)) (.cons (.asg (.t (.v 3 false)) (.bin .Mod (.bf .int (.cons false (.bin .Add (.bin .Mult (.var 3) (.lit (.int 71))) (.bin .Mod (.bf .int (.cons false (.var 2) .nil)) (.lit (.int 2147483497)))) .nil)) (.lit (.int 2147483497)))) (.cons (.ret (.lst true (.cons false (.ite (.or (.cmp .Lt (.var 2) (.lit (.int 0))) (.cmp .GtE (.var 2) (.bin .Pow (.lit (.int 10)) (.lit (.int 15))))) (.bf .abs (.cons false (.var 2) .nil)) (.lit (.int 0))) (.cons false (.var 3) (.cons false (.lit (.int 1)) .nil))))) .nil)))))⟩
abbrev s180 : Stmt := top 75
def d180 : DfI := ⟨180, .g "_law_kettle", "_law_kettle", "_law_kettle", defArgs s180, defBody s180, defScope s180, ["_law_cells", "_law_k", "_law_whole_here", "_law_stir", "_law_cell"], ["_law_cells", "_law_k"], e180⟩
/-- _law_right -/
def e2 : Ev.FnD := ⟨1, 19, false, (.cons (.fors (.v 1 false) (.rng (.cons false (.lit (.int 4)) .nil)) (.cons (.asg (.t (.v 2 false)) (.call 4 (.cons false (.call 192 (.cons false (.var 0) .nil) .nil [] []) .nil) .nil [] [])) (.cons (.asg (.t (.v 3 false)) (.make 0 true (.cons false (.var 2) .nil) .nil [] [])) (.cons (.asg (.t (.v 4 false)) (.call 93 (.cons false (.var 3) .nil) .nil [] [])) (.cons (.asg (.t (.v 5 false)) (.tup (.cons false (.call 44 (.cons false (.var 3) .nil) .nil [] []) (.cons false (.ite (.cmp .Is (.var 4) (.lit .non)) (.bin .Mult (.tup (.cons false (.lit (.int 1)) .nil)) (.bf .len (.cons false (.var 2) .nil))) (.var 4)) .nil)))) (.cons (.asg (.t (.v 6 false)) (.comp false (.v 8 false) (.rng (.cons false (.bf .len (.cons false (.var 2) .nil)) .nil)) .nil (.bf .sum (.cons false (.comp false (.v 7 false) (.rng (.cons false (.bf .len (.cons false (.var 2) .nil)) .nil)) .nil (.bin .Mult (.idx (.idx (.var 5) (.lit (.int 1))) (.var 7)) (.idx (.idx (.var 2) (.var 8)) (.var 7)))) .nil)))) (.cons (.asg (.t (.v 9 false)) (.bf .sum (.cons false (.idx (.var 5) (.lit (.int 1))) .nil))) (.cons (.ifs (.cmp .Eq (.var 9) (.lit (.int 0))) (.cons (.ret (.lit (.bl false))) .nil) .nil) (.cons (.asg (.t (.v 10 false)) (.ite (.cmp .Gt (.var 9) (.lit (.int 0))) (.lit (.int 1)) (.neg (.lit (.int 1))))) (.cons (.asg (.t (.v 11 false)) (.call 193 (.cons false (.bin .Mult (.var 10) (.idx (.var 6) (.lit (.int 0)))) (.cons false (.bin .Mult (.bin .Mult (.lit (.int 2)) (.var 10)) (.var 9)) .nil)) .nil [] [])) (.cons (.ifs (.and (.cmp .IsNot (.var 4) (.lit .non)) (.not (.call 194 (.cons false (.var 2) (.cons false (.var 11) (.cons false (.var 5) .nil))) .nil [] []))) (.cons (.ret (.lit (.bl false))) .nil) .nil) (.cons (.asg (.t (.v 12 false)) (.call 183 (.cons false (.var 0) (.cons false (.lst false (.cons false (.neg (.lit (.int 1))) (.cons false (.lit (.int 3)) (.cons false (.lit (.int 100)) .nil)))) .nil)) .nil [] [])) (.cons (.fors (.v 13 false) (.rng (.cons false (.lit (.int 7)) .nil)) (.cons (.asg (.t (.v 14 false)) (.tup (.cons false (.idx (.var 5) (.lit (.int 0))) (.cons false (.bf .tuple (.cons false (.comp false (.v 15 false) (.val (.idx (.var 5) (.lit (.int 1)))) .nil (.bin .Mult (.var 12) (.var 15))) .nil)) .nil)))) (.cons (.asg (.t (.v 16 false)) (.call 183 (.cons false (.var 0) (.cons false (.lst false (.cons false (.var 5) (.cons false (.var 14) (.cons false (.call 181 (.cons false (.var 0) (.cons false (.var 5) .nil)) .nil [] []) (.cons false (.call 181 (.cons false (.var 0) (.cons false (.var 5) .nil)) .nil [] []) .nil))))) .nil)) .nil [] [])) (.cons (.asg (.t (.v 17 false)) (.lst false (.cons false (.tup (.cons false (.bin .Add (.idx (.var 11) (.lit (.int 0))) (.lit (.int 1))) (.cons false (.idx (.var 11) (.lit (.int 1))) .nil))) (.cons false (.tup (.cons false (.bin .Mult (.lit (.int 2)) (.idx (.var 11) (.lit (.int 0)))) (.cons false (.bin .Mult (.lit (.int 2)) (.idx (.var 11) (.lit (.int 1)))) .nil))) (.cons false (.idx (.var 11) (.lit (.int 0))) (.cons false (.bf .list (.cons false (.var 11) .nil)) (.cons false (.tup (.cons false (.idx (.var 11) (.lit (.int 0))) (.cons false (.lit (.int 0)) .nil))) .nil))))))) (.cons (.asg (.t (.v 18 false)) (.call 183 (.cons false (.var 0) (.cons false (.bin .Add (.bin .Mult (.lst false (.cons false (.var 11) .nil)) (.lit (.int 5))) (.var 17)) .nil)) .nil [] [])) (.cons (.ifs (.cmp .NotEq (.bf .repr (.cons false (.call 197 (.cons false (.tup (.cons false (.lit (.str "ball")) (.cons false (.var 2) (.cons false (.var 18) .nil)))) (.cons false (.var 16) .nil)) .nil [] []) .nil)) (.bf .repr (.cons false (.call 194 (.cons false (.var 2) (.cons false (.var 18) (.cons false (.var 16) .nil))) .nil [] []) .nil))) (.cons (.ret (.lit (.bl false))) .nil) .nil) .nil)))))) .nil))))))))))))) (.cons (.ret (.lit (.bl true))) .nil))⟩
abbrev s2 : Stmt := top 88
def d2 : DfI := ⟨2, .g "_law_right", "_law_right", "_law_right", defArgs s2, defBody s2, defScope s2, ["_law_kettle_here", "_law_turn", "_law_rows_here", "_law_made", "_law_mix_here", "_law_good", "_law_sums", "_law_j", "_law_k", "_law_all_here", "_law_sign", "_law_ratio", "_law_by", "_law_again", "_law_more", "_law_each", "_law_paper", "_law_other", "_law_near"], ["_law_kettle_here"], e2⟩
/-- _law_round_points -/
def e192 : Ev.FnD := ⟨1, 6, false, (.cons (.ifs (.cmp .Eq (.call 184 (.cons false (.var 0) (.cons false (.lit (.int 3)) .nil)) .nil [] []) (.lit (.int 0))) (.cons (.ret (.call 23 (.cons false (.var 0) (.cons false (.lit (.int 4)) (.cons false (.lit (.int 5)) .nil))) .nil [] [])) .nil) .nil) (.cons (.parO 1 2 (.comp false (.v 3 false) (.rng (.cons false (.bin .Add (.lit (.int 1)) (.call 184 (.cons false (.var 0) (.cons false (.lit (.int 3)) .nil)) .nil [] [])) .nil)) .nil (.bin .Add (.lit (.int 1)) (.call 184 (.cons false (.var 0) (.cons false (.lit (.int 4)) .nil)) .nil [] []))) (.lst false .nil)) (.cons (.fors (.v 4 false) (.rng (.cons false (.bin .Add (.lit (.int 1)) (.call 184 (.cons false (.var 0) (.cons false (.lit (.int 5)) .nil)) .nil [] [])) .nil)) (.cons (.appO 2 (.bf .tuple (.cons false (.comp false (.v 5 false) (.val (.var 1)) .nil (.ite (.cmp .Eq (.call 184 (.cons false (.var 0) (.cons false (.lit (.int 2)) .nil)) .nil [] []) (.lit (.int 0))) (.var 5) (.neg (.var 5)))) .nil))) .nil)) (.cons (.retT 2) .nil))))⟩
abbrev s192 : Stmt := top 87
def d192 : DfI := ⟨192, .g "_law_round_points", "_law_round_points", "_law_round_points", defArgs s192, defBody s192, defScope s192, ["_law_kettle_here", "_law_half", "_law_found", "_law_k", "_law_turn", "_law_each"], ["_law_kettle_here"], e192⟩
/-- _law_rows -/
def e4 : Ev.FnD := ⟨1, 5, false, (.cons (.asg (.t (.v 1 true)) (.lst false .nil)) (.cons (.fors (.v 2 false) (.val (.var 0)) (.cons (.appO 1 (.bf .tuple (.cons false (.comp false (.v 4 false) (.val (.var 0)) .nil (.bf .sum (.cons false (.comp false (.v 3 false) (.rng (.cons false (.bf .len (.cons false (.var 2) .nil)) .nil)) .nil (.bin .Pow (.bin .Sub (.idx (.var 2) (.var 3)) (.idx (.var 4) (.var 3))) (.lit (.int 2)))) .nil))) .nil))) .nil)) (.cons (.ret (.bf .tuple (.cons false (.var 1) .nil))) .nil)))⟩
abbrev s4 : Stmt := top 79
def d4 : DfI := ⟨4, .g "_law_rows", "_law_rows", "_law_rows", defArgs s4, defBody s4, defScope s4, ["_law_spots", "_law_found", "_law_one", "_law_k", "_law_two"], ["_law_spots"], e4⟩
/-- Lengths.__init__ -/
def e21 : Ev.FnD := ⟨2, 3, false, (.cons (.ifs (.or (.not (.isi (.var 1) .tup)) (.not (.chain .LtE .LtE (.lit (.int 1)) (.bf .len (.cons false (.var 1) .nil)) (.lit (.int 8))))) (.cons .no .nil) .nil) (.cons (.asg (.t (.v 2 false)) (.call 9 (.cons false (.var 1) .nil) .nil [] [])) (.cons (.ifs (.cmp .IsNot (.var 2) (.lit .non)) (.cons .no .nil) .nil) (.cons (.asg (.attr (.var 0) 0) (.var 1)) .nil))))⟩
abbrev s21 : Stmt := inClass (top 15) 0
def d21 : DfI := ⟨21, .m "Lengths" "__init__", "__init__", "Lengths.__init__", defArgs s21, defBody s21, defScope s21, ["self", "rows", "index"], ["self", "rows"], e21⟩
/-- middle -/
def e93 : Ev.FnD := ⟨1, 1, false, (.cons (.expr (.call 97 (.cons false (.var 0) .nil) .nil [] [])) (.cons (.ret (.call 98 (.cons false (.attr (.var 0) 0) .nil) .nil [] [])) .nil))⟩
abbrev s93 : Stmt := top 73
def d93 : DfI := ⟨93, .g "middle", "middle", "middle", defArgs s93, defBody s93, defScope s93, ["lengths"], ["lengths"], e93⟩
/-- layers -/
def e44 : Ev.FnD := ⟨1, 1, false, (.cons (.expr (.call 14 (.cons false (.var 0) .nil) .nil [] [])) (.cons (.ret (.call 56 (.cons false (.attr (.var 0) 0) .nil) .nil [] [])) .nil))⟩
abbrev s44 : Stmt := top 40
def d44 : DfI := ⟨44, .g "layers", "layers", "layers", defArgs s44, defBody s44, defScope s44, ["lengths"], ["lengths"], e44⟩
/-- _law_low -/
def e193 : Ev.FnD := ⟨2, 4, false, (.cons (.par [2, 3] (.cons false (.bf .abs (.cons false (.var 0) .nil)) (.cons false (.var 1) .nil))) (.cons (.whl (.cmp .Gt (.var 3) (.lit (.int 0))) (.cons (.par [2, 3] (.cons false (.var 3) (.cons false (.bin .Mod (.bf .int (.cons false (.var 2) .nil)) (.var 3)) .nil))) .nil)) (.cons (.ret (.tup (.cons false (.bin .FloorDiv (.var 0) (.var 2)) (.cons false (.bin .FloorDiv (.var 1) (.var 2)) .nil)))) .nil)))⟩
abbrev s193 : Stmt := top 84
def d193 : DfI := ⟨193, .g "_law_low", "_law_low", "_law_low", defArgs s193, defBody s193, defScope s193, ["_law_top", "_law_under", "_law_one", "_law_two"], ["_law_top", "_law_under"], e193⟩
/-- _law_is_ball -/
def e194 : Ev.FnD := ⟨3, 8, false, (.cons (.ifs (.or (.not (.call 195 (.cons false (.var 1) .nil) .nil [] [])) (.or (.not (.isi (.var 2) .tup)) (.cmp .NotEq (.bf .len (.cons false (.var 2) .nil)) (.lit (.int 2))))) (.cons (.ret (.lit (.bl false))) .nil) .nil) (.cons (.asg (.t (.tup [.v 3 false, .v 4 false])) (.tup (.cons false (.idx (.var 2) (.lit (.int 1))) (.cons false (.bf .len (.cons false (.var 0) .nil)) .nil)))) (.cons (.ifs (.or (.not (.call 87 (.cons false (.var 0) (.cons false (.idx (.var 2) (.lit (.int 0))) .nil)) .nil [] [])) (.or (.not (.call 186 (.cons false (.var 3) (.cons false (.var 4) .nil)) .nil [] [])) (.cmp .Eq (.bf .sum (.cons false (.var 3) .nil)) (.lit (.int 0))))) (.cons (.ret (.lit (.bl false))) .nil) .nil) (.cons (.asg (.t (.v 5 false)) (.comp false (.v 7 false) (.rng (.cons false (.var 4) .nil)) .nil (.bf .sum (.cons false (.comp false (.v 6 false) (.rng (.cons false (.var 4) .nil)) .nil (.bin .Mult (.idx (.var 3) (.var 6)) (.idx (.idx (.var 0) (.var 7)) (.var 6)))) .nil)))) (.cons (.ret (.and (.cmp .Eq (.bf .min (.cons false (.var 5) .nil)) (.bf .max (.cons false (.var 5) .nil))) (.cmp .Eq (.bin .Mult (.bin .Mult (.lit (.int 2)) (.idx (.var 1) (.lit (.int 0)))) (.bf .sum (.cons false (.var 3) .nil))) (.bin .Mult (.idx (.var 5) (.lit (.int 0))) (.idx (.var 1) (.lit (.int 1))))))) .nil)))))⟩
abbrev s194 : Stmt := top 85
def d194 : DfI := ⟨194, .g "_law_is_ball", "_law_is_ball", "_law_is_ball", defArgs s194, defBody s194, defScope s194, ["_law_rows_here", "_law_ratio", "_law_paper", "_law_mix_here", "_law_many", "_law_sums", "_law_j", "_law_k"], ["_law_rows_here", "_law_ratio", "_law_paper"], e194⟩
/-- _law_one_of -/
def e183 : Ev.FnD := ⟨2, 2, false, (.cons (.ret (.idx (.var 1) (.call 184 (.cons false (.var 0) (.cons false (.bf .len (.cons false (.var 1) .nil)) .nil)) .nil [] []))) .nil)⟩
abbrev s183 : Stmt := top 77
def d183 : DfI := ⟨183, .g "_law_one_of", "_law_one_of", "_law_one_of", defArgs s183, defBody s183, defScope s183, ["_law_kettle_here", "_law_menu"], ["_law_kettle_here", "_law_menu"], e183⟩
/-- _law_bent -/
def e181 : Ev.FnD := ⟨2, 4, false, (.cons (.ifs (.call 187 (.cons false (.var 1) .nil) .nil [] []) (.cons (.ret (.call 183 (.cons false (.var 0) (.cons false (.lst false (.cons false (.bin .Add (.var 1) (.lit (.int 1))) (.cons false (.bin .Sub (.var 1) (.lit (.int 1))) (.cons false (.neg (.var 1)) (.cons false (.bin .Mult (.lit (.int 2)) (.var 1)) (.cons false (.lit (.int 0)) (.cons false (.lit (.int 1)) (.cons false (.bin .Add (.var 1) (.lit (.int 1))) (.cons false (.bin .Sub (.var 1) (.lit (.int 1))) .nil))))))))) .nil)) .nil [] [])) .nil) .nil) (.cons (.ifs (.or (.not (.isi (.var 1) .tup)) (.cmp .Eq (.var 1) (.tup .nil))) (.cons (.ret (.call 183 (.cons false (.var 0) (.cons false (.lst false (.cons false (.lit .non) (.cons false (.lit (.int 0)) (.cons false (.tup (.cons false (.lit (.int 0)) .nil)) (.cons false (.lit (.str "")) (.cons false (.lst false .nil) (.cons false (.tup (.cons false (.lit .non) .nil)) (.cons false (.tup (.cons false (.tup .nil) .nil)) (.cons false (.lit (.bl true)) .nil))))))))) .nil)) .nil [] [])) .nil) .nil) (.cons (.par [2, 3] (.cons false (.call 184 (.cons false (.var 0) (.cons false (.bf .len (.cons false (.var 1) .nil)) .nil)) .nil [] []) (.cons false (.call 184 (.cons false (.var 0) (.cons false (.lit (.int 12)) .nil)) .nil [] []) .nil))) (.cons (.ifs (.cmp .Eq (.var 3) (.lit (.int 0))) (.cons (.ret (.bin .Add (.slc (.var 1) .none (.some (.var 2))) (.slc (.var 1) (.some (.bin .Add (.var 2) (.lit (.int 1)))) .none))) .nil) .nil) (.cons (.ifs (.cmp .Eq (.var 3) (.lit (.int 1))) (.cons (.ret (.bin .Add (.bin .Add (.slc (.var 1) .none (.some (.var 2))) (.tup (.cons false (.idx (.var 1) (.var 2)) .nil))) (.slc (.var 1) (.some (.var 2)) .none))) .nil) .nil) (.cons (.ifs (.cmp .Eq (.var 3) (.lit (.int 2))) (.cons (.ret (.rev (.var 1))) .nil) .nil) (.cons (.ifs (.cmp .Eq (.var 3) (.lit (.int 3))) (.cons (.ret (.call 183 (.cons false (.var 0) (.cons false (.lst false (.cons false (.bf .list (.cons false (.var 1) .nil)) (.cons false (.bin .Add (.bin .Add (.slc (.var 1) .none (.some (.var 2))) (.tup (.cons false (.lit (.bl true)) .nil))) (.slc (.var 1) (.some (.bin .Add (.var 2) (.lit (.int 1)))) .none)) (.cons false (.bin .Add (.var 1) (.tup (.cons false (.lit (.int 0)) .nil))) (.cons false (.bin .Add (.var 1) (.tup (.cons false (.tup .nil) .nil))) .nil))))) .nil)) .nil [] [])) .nil) .nil) (.cons (.ret (.bin .Add (.bin .Add (.slc (.var 1) .none (.some (.var 2))) (.tup (.cons false (.call 181 (.cons false (.var 0) (.cons false (.idx (.var 1) (.var 2)) .nil)) .nil [] []) .nil))) (.slc (.var 1) (.some (.bin .Add (.var 2) (.lit (.int 1)))) .none))) .nil))))))))⟩
abbrev s181 : Stmt := top 86
def d181 : DfI := ⟨181, .g "_law_bent", "_law_bent", "_law_bent", defArgs s181, defBody s181, defScope s181, ["_law_kettle_here", "_law_paper", "_law_at", "_law_way"], ["_law_kettle_here", "_law_paper"], e181⟩
/-- holds -/
def e197 : Ev.FnD := ⟨2, 4, false, (.cons (.ifs (.or (.not (.isi (.var 0) .tup)) (.or (.cmp .Lt (.bf .len (.cons false (.var 0) .nil)) (.lit (.int 2))) (.or (.not (.isi (.idx (.var 0) (.lit (.int 0))) .str)) (.inT true ["placed", "not placed", "needs", "ball", "alike", "unlike", "range"] (.idx (.var 0) (.lit (.int 0))))))) (.cons (.ret (.lit (.bl false))) .nil) .nil) (.cons (.asg (.t (.tup [.v 2 false, .v 3 false])) (.atT [("ball", 3, 302)] (.idx (.var 0) (.lit (.int 0))))) (.cons (.ret (.and (.cmp .Eq (.bf .len (.cons false (.var 0) .nil)) (.var 2)) (.and (.call 198 (.cons false (.idx (.var 0) (.lit (.int 1))) .nil) .nil [] []) (.callv (.var 3) (.cons false (.idx (.var 0) (.lit (.int 1))) (.cons false (.slc (.var 0) (.some (.lit (.int 2))) .none) (.cons false (.var 1) .nil))))))) .nil)))⟩
abbrev s197 : Stmt := top 67
def d197 : DfI := ⟨197, .g "holds", "holds", "holds", defArgs s197, defBody s197, defScope s197, ["claim", "paper", "size", "shows"], ["claim", "paper"], e197⟩
/-- _law_sip -/
def e184 : Ev.FnD := ⟨2, 4, false, (.cons (.asg (.idx (.var 0) (.lit (.int 2))) (.bin .Add (.idx (.var 0) (.lit (.int 2))) (.lit (.int 2)))) (.cons (.ifs (.cmp .Gt (.idx (.var 0) (.lit (.int 0))) (.lit (.int 0))) (.cons (.asg (.tup (.cons (.idx (.var 0) (.lit (.int 0))) (.cons (.t (.v 2 false)) .nil))) (.bf .divmod (.cons false (.bf .int (.cons false (.idx (.var 0) (.lit (.int 0))) .nil)) (.cons false (.var 1) .nil)))) (.cons (.ret (.var 2)) .nil)) .nil) (.cons (.asg (.t (.v 3 false)) (.bf .int (.cons false (.bin .Add (.bin .Mult (.idx (.var 0) (.lit (.int 1))) (.lit (.int 37813))) (.bin .Mult (.idx (.var 0) (.lit (.int 2))) (.lit (.int 65537)))) .nil))) (.cons (.asg (.idx (.var 0) (.lit (.int 1))) (.bin .Mod (.bf .int (.cons false (.bin .Add (.var 3) (.bin .Mult (.bf .int (.cons false (.bin .FloorDiv (.idx (.var 0) (.lit (.int 1))) (.lit (.int 6007))) .nil)) (.lit (.int 109)))) .nil)) (.lit (.int 2147483497)))) (.cons (.ret (.bin .Mod (.bf .int (.cons false (.bin .FloorDiv (.idx (.var 0) (.lit (.int 1))) (.lit (.int 389))) .nil)) (.var 1))) .nil)))))⟩
abbrev s184 : Stmt := top 76
def d184 : DfI := ⟨184, .g "_law_sip", "_law_sip", "_law_sip", defArgs s184, defBody s184, defScope s184, ["_law_kettle_here", "_law_many", "_law_digit", "_law_stir"], ["_law_kettle_here", "_law_many"], e184⟩
/-- _law_points -/
def e23 : Ev.FnD := ⟨3, 10, false, (.cons (.par [3, 4] (.cons false (.bin .Add (.lit (.int 1)) (.call 184 (.cons false (.var 0) (.cons false (.var 1) .nil)) .nil [] [])) (.cons false (.bin .Add (.lit (.int 1)) (.call 184 (.cons false (.var 0) (.cons false (.lit (.int 4)) .nil)) .nil [] [])) .nil))) (.cons (.parP [(2, false), (5, true)] (.cons false (.idx (.lst false (.cons false (.lit (.int 1)) (.cons false (.lit (.int 3)) (.cons false (.var 2) .nil)))) (.call 184 (.cons false (.var 0) (.cons false (.lit (.int 3)) .nil)) .nil [] [])) (.cons false (.lst false .nil) .nil))) (.cons (.fors (.v 6 false) (.rng (.cons false (.var 3) .nil)) (.cons (.asg (.t (.v 7 false)) (.bf .tuple (.cons false (.comp false (.v 8 false) (.rng (.cons false (.var 4) .nil)) .nil (.bin .Sub (.call 184 (.cons false (.var 0) (.cons false (.bin .Add (.bin .Mult (.lit (.int 2)) (.var 2)) (.lit (.int 1))) .nil)) .nil [] []) (.var 2))) .nil))) (.cons (.asg (.t (.v 9 false)) (.and (.cmp .Eq (.call 184 (.cons false (.var 0) (.cons false (.lit (.int 6)) .nil)) .nil [] []) (.lit (.int 0))) (.cmp .NotEq (.var 5) (.lst false .nil)))) (.cons (.appO 5 (.ite (.var 9) (.idx (.var 5) (.call 184 (.cons false (.var 0) (.cons false (.bf .len (.cons false (.var 5) .nil)) .nil)) .nil [] [])) (.var 7))) .nil)))) (.cons (.retT 5) .nil))))⟩
abbrev s23 : Stmt := top 78
def d23 : DfI := ⟨23, .g "_law_points", "_law_points", "_law_points", defArgs s23, defBody s23, defScope s23, ["_law_kettle_here", "_law_most", "_law_reach", "_law_count", "_law_coords", "_law_found", "_law_turn", "_law_spot", "_law_k", "_law_again"], ["_law_kettle_here", "_law_most", "_law_reach"], e23⟩
/-- wrong_row -/
def e9 : Ev.FnD := ⟨1, 3, false, (.cons (.fors (.tup [.v 1 false, .v 2 false]) (.enum (.var 0)) (.cons (.ifs (.not (.call 13 (.cons false (.var 2) (.cons false (.var 0) (.cons false (.var 1) .nil))) .nil [] [])) (.cons (.ret (.var 1)) .nil) .nil) .nil)) (.cons (.ret (.lit .non)) .nil))⟩
abbrev s9 : Stmt := top 13
def d9 : DfI := ⟨9, .g "wrong_row", "wrong_row", "wrong_row", defArgs s9, defBody s9, defScope s9, ["rows", "index", "row"], ["rows"], e9⟩
/-- check_ball -/
def e97 : Ev.FnD := ⟨1, 1, false, (.cons (.expr (.call 14 (.cons false (.var 0) .nil) .nil [] [])) (.cons (.expr (.call 95 (.cons false (.var 0) .nil) .nil [] [])) .nil))⟩
abbrev s97 : Stmt := top 72
def d97 : DfI := ⟨97, .g "check_ball", "check_ball", "check_ball", defArgs s97, defBody s97, defScope s97, ["lengths"], ["lengths"], e97⟩
/-- middle_of -/
def e98 : Ev.FnD := ⟨1, 5, false, (.cons (.asg (.t (.v 1 true)) (.comp false (.v 3 false) (.val (.var 0)) .nil (.bin .Add (.comp false (.v 2 false) (.val (.var 3)) .nil (.tup (.cons false (.var 2) (.cons false (.lit (.int 1)) .nil)))) (.lst false (.cons false (.tup (.cons false (.neg (.lit (.int 1))) (.cons false (.lit (.int 1)) .nil))) (.cons false (.tup (.cons false (.lit (.int 0)) (.cons false (.lit (.int 1)) .nil))) .nil)))))) (.cons (.appO 1 (.bin .Add (.bin .Mult (.lst false (.cons false (.tup (.cons false (.lit (.int 1)) (.cons false (.lit (.int 1)) .nil))) .nil)) (.bf .len (.cons false (.var 0) .nil))) (.lst false (.cons false (.tup (.cons false (.lit (.int 0)) (.cons false (.lit (.int 1)) .nil))) (.cons false (.tup (.cons false (.lit (.int 1)) (.cons false (.lit (.int 1)) .nil))) .nil))))) (.cons (.frz 1) (.cons (.asg (.t (.v 4 false)) (.call 101 (.cons false (.var 1) (.cons false (.bin .Add (.bf .len (.cons false (.var 0) .nil)) (.lit (.int 1))) .nil)) .nil [] [])) (.cons (.ret (.ite (.cmp .Is (.var 4) (.lit .non)) (.lit .non) (.call 102 (.cons false (.slc (.var 4) .none (.some (.neg (.lit (.int 1))))) .nil) .nil [] []))) .nil)))))⟩
abbrev s98 : Stmt := top 71
def d98 : DfI := ⟨98, .g "middle_of", "middle_of", "middle_of", defArgs s98, defBody s98, defScope s98, ["rows", "equations", "square", "row", "found"], ["rows"], e98⟩
/-- check_lengths -/
def e14 : Ev.FnD := ⟨1, 1, false, (.cons (.ifs (.not (.isi (.var 0) (.own 0))) (.cons .no .nil) .nil) .nil)⟩
abbrev s14 : Stmt := top 16
def d14 : DfI := ⟨14, .g "check_lengths", "check_lengths", "check_lengths", defArgs s14, defBody s14, defScope s14, ["value"], ["value"], e14⟩
/-- layers_of -/
def e56 : Ev.FnD := ⟨1, 2, false, (.cons (.asg (.t (.v 1 false)) (.make 1 true (.cons false (.var 0) .nil) .nil [] [])) (.cons (.ret (.ite (.meth (.var 1) 1 .nil .nil [] []) (.meth (.var 1) 2 .nil .nil [] []) (.lit .non))) .nil))⟩
abbrev s56 : Stmt := top 39
def d56 : DfI := ⟨56, .g "layers_of", "layers_of", "layers_of", defArgs s56, defBody s56, defScope s56, ["rows", "split"], ["rows"], e56⟩
/-- _law_is_ratio -/
def e195 : Ev.FnD := ⟨1, 3, false, (.cons (.ifs (.or (.not (.call 186 (.cons false (.var 0) (.cons false (.lit (.int 2)) .nil)) .nil [] [])) (.cmp .Lt (.idx (.var 0) (.lit (.int 1))) (.lit (.int 1)))) (.cons (.ret (.lit (.bl false))) .nil) .nil) (.cons (.par [1, 2] (.cons false (.bf .abs (.cons false (.idx (.var 0) (.lit (.int 0))) .nil)) (.cons false (.idx (.var 0) (.lit (.int 1))) .nil))) (.cons (.whl (.cmp .Gt (.var 2) (.lit (.int 0))) (.cons (.par [1, 2] (.cons false (.var 2) (.cons false (.bin .Mod (.bf .int (.cons false (.var 1) .nil)) (.var 2)) .nil))) .nil)) (.cons (.ret (.cmp .Eq (.var 1) (.lit (.int 1)))) .nil))))⟩
abbrev s195 : Stmt := top 83
def d195 : DfI := ⟨195, .g "_law_is_ratio", "_law_is_ratio", "_law_is_ratio", defArgs s195, defBody s195, defScope s195, ["_law_thing", "_law_one", "_law_two"], ["_law_thing"], e195⟩
/-- _law_are_layers -/
def e87 : Ev.FnD := ⟨2, 8, false, (.cons (.ifs (.not (.isi (.var 1) .tup)) (.cons (.ret (.lit (.bl false))) .nil) .nil) (.cons (.fors (.v 2 false) (.val (.var 1)) (.cons (.ifs (.or (.not (.isi (.var 2) .tup)) (.or (.cmp .NotEq (.bf .len (.cons false (.var 2) .nil)) (.lit (.int 3))) (.not (.call 186 (.cons false (.idx (.var 2) (.lit (.int 2))) (.cons false (.bf .len (.cons false (.var 0) .nil)) .nil)) .nil [] [])))) (.cons (.ret (.lit (.bl false))) .nil) .nil) (.cons (.ifs (.or (.not (.call 186 (.cons false (.slc (.var 2) .none (.some (.lit (.int 2)))) (.cons false (.lit (.int 2)) .nil)) .nil [] [])) (.cmp .Lt (.bf .min (.cons false (.idx (.var 2) (.lit (.int 0))) (.cons false (.idx (.var 2) (.lit (.int 1))) .nil))) (.lit (.int 1)))) (.cons (.ret (.lit (.bl false))) .nil) .nil) .nil))) (.cons (.fors (.v 3 false) (.rng (.cons false (.bf .len (.cons false (.var 0) .nil)) .nil)) (.cons (.fors (.v 4 false) (.rng (.cons false (.var 3) .nil)) (.cons (.asg (.t (.tup [.v 5 false, .v 6 false])) (.tup (.cons false (.lit (.int 0)) (.cons false (.lit (.int 1)) .nil)))) (.cons (.fors (.v 2 false) (.val (.var 1)) (.cons (.asg (.t (.v 7 false)) (.bin .Sub (.idx (.idx (.var 2) (.lit (.int 2))) (.var 3)) (.idx (.idx (.var 2) (.lit (.int 2))) (.var 4)))) (.cons (.par [5, 6] (.cons false (.bin .Add (.bin .Mult (.var 5) (.idx (.var 2) (.lit (.int 1)))) (.bin .Mult (.bin .Mult (.bin .Mult (.idx (.var 2) (.lit (.int 0))) (.var 7)) (.var 7)) (.var 6))) (.cons false (.bin .Mult (.var 6) (.idx (.var 2) (.lit (.int 1)))) .nil))) .nil))) (.cons (.ifs (.cmp .NotEq (.var 5) (.bin .Mult (.idx (.idx (.var 0) (.var 3)) (.var 4)) (.var 6))) (.cons (.ret (.lit (.bl false))) .nil) .nil) .nil)))) .nil)) (.cons (.ret (.lit (.bl true))) .nil))))⟩
abbrev s87 : Stmt := top 82
def d87 : DfI := ⟨87, .g "_law_are_layers", "_law_are_layers", "_law_are_layers", defArgs s87, defBody s87, defScope s87, ["_law_rows_here", "_law_paper", "_law_layer", "_law_one", "_law_two", "_law_top", "_law_under", "_law_gap"], ["_law_rows_here", "_law_paper"], e87⟩
/-- _law_whole_row -/
def e186 : Ev.FnD := ⟨2, 3, false, (.cons (.ret (.and (.isi (.var 0) .tup) (.and (.cmp .Eq (.bf .len (.cons false (.var 0) .nil)) (.var 1)) (.cmp .Eq (.comp false (.v 2 false) (.val (.var 0)) (.cons false (.not (.call 187 (.cons false (.var 2) .nil) .nil [] [])) .nil) (.var 2)) (.lst false .nil))))) .nil)⟩
abbrev s186 : Stmt := top 81
def d186 : DfI := ⟨186, .g "_law_whole_row", "_law_whole_row", "_law_whole_row", defArgs s186, defBody s186, defScope s186, ["_law_thing", "_law_many", "_law_each"], ["_law_thing", "_law_many"], e186⟩
/-- _law_whole -/
def e187 : Ev.FnD := ⟨1, 1, false, (.cons (.ret (.and (.isi (.var 0) .int) (.not (.isi (.var 0) .bool)))) .nil)⟩
abbrev s187 : Stmt := top 80
def d187 : DfI := ⟨187, .g "_law_whole", "_law_whole", "_law_whole", defArgs s187, defBody s187, defScope s187, ["_law_thing"], ["_law_thing"], e187⟩
/-- shows_ball -/
def e302 : Ev.FnD := ⟨3, 9, false, (.cons (.ifs (.or (.not (.call 303 (.cons false (.idx (.var 1) (.lit (.int 0))) .nil) .nil [] [])) (.or (.not (.isi (.var 2) .tup)) (.cmp .NotEq (.bf .len (.cons false (.var 2) .nil)) (.lit (.int 2))))) (.cons (.ret (.lit (.bl false))) .nil) .nil) (.cons (.asg (.t (.tup [.v 3 false, .v 4 false])) (.var 2)) (.cons (.ifs (.or (.not (.call 304 (.cons false (.var 0) (.cons false (.var 3) .nil)) .nil [] [])) (.or (.not (.call 301 (.cons false (.var 4) (.cons false (.bf .len (.cons false (.var 0) .nil)) .nil)) .nil [] [])) (.cmp .Eq (.bf .sum (.cons false (.var 4) .nil)) (.lit (.int 0))))) (.cons (.ret (.lit (.bl false))) .nil) .nil) (.cons (.asg (.t (.v 5 false)) (.comp false (.v 8 false) (.val (.var 0)) .nil (.bf .sum (.cons false (.comp false (.tup [.v 6 false, .v 7 false]) (.zip (.var 4) (.var 8)) .nil (.bin .Mult (.var 6) (.var 7))) .nil)))) (.cons (.ret (.and (.cmp .Eq (.bf .min (.cons false (.var 5) .nil)) (.bf .max (.cons false (.var 5) .nil))) (.cmp .Eq (.bin .Mult (.bin .Mult (.lit (.int 2)) (.idx (.idx (.var 1) (.lit (.int 0))) (.lit (.int 0)))) (.bf .sum (.cons false (.var 4) .nil))) (.bin .Mult (.idx (.var 5) (.lit (.int 0))) (.idx (.idx (.var 1) (.lit (.int 0))) (.lit (.int 1))))))) .nil)))))⟩
abbrev s302 : Stmt := top 61
def d302 : DfI := ⟨302, .g "shows_ball", "shows_ball", "shows_ball", defArgs s302, defBody s302, defScope s302, ["rows", "claim", "paper", "layers", "mix", "sums", "weight", "square", "row"], ["rows", "claim", "paper"], e302⟩
/-- are_rows -/
def e198 : Ev.FnD := ⟨1, 1, false, (.cons (.ret (.and (.isi (.var 0) .tup) (.and (.chain .LtE .LtE (.lit (.int 1)) (.bf .len (.cons false (.var 0) .nil)) (.lit (.int 8))) (.cmp .Is (.call 9 (.cons false (.var 0) .nil) .nil [] []) (.lit .non))))) .nil)⟩
abbrev s198 : Stmt := top 14
def d198 : DfI := ⟨198, .g "are_rows", "are_rows", "are_rows", defArgs s198, defBody s198, defScope s198, ["value"], ["value"], e198⟩
/-- is_row -/
def e13 : Ev.FnD := ⟨3, 5, false, (.cons (.ifs (.or (.not (.isi (.var 0) .tup)) (.or (.cmp .NotEq (.bf .len (.cons false (.var 0) .nil)) (.bf .len (.cons false (.var 1) .nil))) (.not (.bf .all (.cons false (.comp false (.v 3 false) (.val (.var 0)) .nil (.call 18 (.cons false (.var 3) .nil) .nil [] [])) .nil))))) (.cons (.ret (.lit (.bl false))) .nil) .nil) (.cons (.ret (.and (.cmp .Eq (.idx (.var 0) (.var 2)) (.lit (.int 0))) (.bf .all (.cons false (.comp false (.v 4 false) (.rng (.cons false (.var 2) .nil)) .nil (.cmp .Eq (.idx (.var 0) (.var 4)) (.idx (.idx (.var 1) (.var 4)) (.var 2)))) .nil)))) .nil))⟩
abbrev s13 : Stmt := top 12
def d13 : DfI := ⟨13, .g "is_row", "is_row", "is_row", defArgs s13, defBody s13, defScope s13, ["value", "rows", "index", "square", "other"], ["value", "rows", "index"], e13⟩
/-- check_placed -/
def e95 : Ev.FnD := ⟨1, 1, false, (.cons (.ifs (.cmp .Is (.call 59 (.cons false (.attr (.var 0) 0) .nil) .nil [] []) (.lit .non)) (.cons .no .nil) .nil) .nil)⟩
abbrev s95 : Stmt := top 69
def d95 : DfI := ⟨95, .g "check_placed", "check_placed", "check_placed", defArgs s95, defBody s95, defScope s95, ["lengths"], ["lengths"], e95⟩
/-- solved -/
def e101 : Ev.FnD := ⟨2, 7, false, (.cons (.parP [(0, true), (2, true)] (.cons false (.comp false (.v 3 false) (.val (.var 0)) .nil (.bf .list (.cons false (.var 3) .nil))) (.cons false (.lst false .nil) .nil))) (.cons (.fors (.v 4 false) (.rng (.cons false (.var 1) .nil)) (.cons (.asg (.t (.v 5 false)) (.call 105 (.cons false (.var 0) (.cons false (.var 4) (.cons false (.bf .len (.cons false (.var 2) .nil)) .nil))) .nil [] [])) (.cons (.ifs (.cmp .IsNot (.var 5) (.lit .non)) (.cons (.asg (.tup (.cons (.own 0 (.bf .len (.cons false (.var 2) .nil))) (.cons (.own 0 (.var 5)) .nil))) (.tup (.cons false (.idx (.var 0) (.var 5)) (.cons false (.idx (.var 0) (.bf .len (.cons false (.var 2) .nil))) .nil)))) (.cons (.frz 0) (.cons (.asg (.t (.v 0 true)) (.call 106 (.cons false (.var 0) (.cons false (.bf .len (.cons false (.var 2) .nil)) (.cons false (.var 4) .nil))) .nil [] [])) (.cons (.appO 2 (.var 4)) .nil)))) .nil) .nil))) (.cons (.ifs (.bf .any (.cons false (.comp false (.v 3 false) (.val (.slc (.var 0) (.some (.bf .len (.cons false (.var 2) .nil))) .none)) .nil (.cmp .NotEq (.idx (.idx (.var 3) (.var 1)) (.lit (.int 0))) (.lit (.int 0)))) .nil)) (.cons (.ret (.lit .non)) .nil) .nil) (.cons (.asg (.t (.v 6 true)) (.bin .Mult (.lst false (.cons false (.tup (.cons false (.lit (.int 0)) (.cons false (.lit (.int 1)) .nil))) .nil)) (.var 1))) (.cons (.frz 2) (.cons (.fors (.tup [.v 5 false, .v 4 false]) (.enum (.var 2)) (.cons (.asg (.own 6 (.var 4)) (.idx (.idx (.var 0) (.var 5)) (.var 1))) .nil)) (.cons (.retT 6) .nil)))))))⟩
abbrev s101 : Stmt := top 31
def d101 : DfI := ⟨101, .g "solved", "solved", "solved", defArgs s101, defBody s101, defScope s101, ["rows", "width", "pivots", "row", "column", "place", "found"], ["rows", "width"], e101⟩
/-- whole_row -/
def e102 : Ev.FnD := ⟨1, 4, false, (.cons (.asg (.t (.v 1 false)) (.lit (.int 1))) (.cons (.fors (.tup [.v 2 false, .v 3 false]) (.val (.var 0)) (.cons (.asg (.t (.v 1 false)) (.bin .FloorDiv (.bin .Mult (.var 1) (.var 3)) (.call 71 (.cons false (.var 1) (.cons false (.var 3) .nil)) .nil [] []))) .nil)) (.cons (.ret (.call 68 (.cons false (.comp false (.tup [.v 2 false, .v 3 false]) (.val (.var 0)) .nil (.bin .Mult (.var 2) (.bin .FloorDiv (.var 1) (.var 3)))) .nil) .nil [] [])) .nil)))⟩
abbrev s102 : Stmt := top 27
def d102 : DfI := ⟨102, .g "whole_row", "whole_row", "whole_row", defArgs s102, defBody s102, defScope s102, ["fractions", "common", "top", "bottom"], ["fractions"], e102⟩
/-- Split.__init__ -/
def e72 : Ev.FnD := ⟨2, 5, false, (.cons (.asg (.attr (.var 0) 4) (.lst true .nil)) (.cons (.par [2, 3] (.cons false (.call 61 (.cons false (.var 1) .nil) .nil [] []) (.cons false (.lit (.int 1)) .nil))) (.cons (.asg (.t (.v 4 false)) (.call 67 (.cons false (.var 2) .nil) .nil [] [])) (.cons (.whl (.cmp .IsNot (.var 4) (.lit .non)) (.cons (.app (.attr (.var 0) 4) (.tup (.cons false (.var 4) (.cons false (.bf .tuple (.cons false (.idx (.var 2) (.var 4)) .nil)) (.cons false (.var 3) .nil))))) (.cons (.asg (.t (.tup [.v 2 false, .v 3 false])) (.call 65 (.cons false (.var 2) (.cons false (.var 3) (.cons false (.var 4) .nil))) .nil [] [])) (.cons (.asg (.t (.v 4 false)) (.call 67 (.cons false (.var 2) .nil) .nil [] [])) .nil)))) (.cons (.asg (.attr (.var 0) 5) (.var 2)) .nil)))))⟩
abbrev s72 : Stmt := inClass (top 37) 0
def d72 : DfI := ⟨72, .m "Split" "__init__", "__init__", "Split.__init__", defArgs s72, defBody s72, defScope s72, ["self", "rows", "rest", "scale", "place"], ["self", "rows"], e72⟩
/-- Split.is_whole -/
def e73 : Ev.FnD := ⟨1, 3, false, (.cons (.ret (.bf .all (.cons false (.comp2 false (.v 1 false) (.val (.attr (.var 0) 5)) .nil (.v 2 false) (.val (.var 1)) .nil (.cmp .Eq (.var 2) (.lit (.int 0)))) .nil))) .nil)⟩
abbrev s73 : Stmt := inClass (top 37) 1
def d73 : DfI := ⟨73, .m "Split" "is_whole", "is_whole", "Split.is_whole", defArgs s73, defBody s73, defScope s73, ["self", "row", "entry"], ["self"], e73⟩
/-- Split.layers -/
def e74 : Ev.FnD := ⟨1, 9, false, (.cons (.asg (.t (.v 1 true)) (.lst false .nil)) (.cons (.fors (.tup [.v 2 false, .v 3 false, .v 4 false]) (.val (.attr (.var 0) 4)) (.cons (.asg (.t (.v 5 false)) (.call 68 (.cons false (.var 3) .nil) .nil [] [])) (.cons (.asg (.t (.v 6 false)) (.bin .FloorDiv (.idx (.var 3) (.var 2)) (.idx (.var 5) (.var 2)))) (.cons (.asg (.t (.tup [.v 7 false, .v 8 false])) (.call 69 (.cons false (.bin .Mult (.var 6) (.var 6)) (.cons false (.bin .Mult (.bin .Mult (.lit (.int 2)) (.var 4)) (.idx (.var 3) (.var 2))) .nil)) .nil [] [])) (.cons (.appO 1 (.tup (.cons false (.var 7) (.cons false (.var 8) (.cons false (.tup (.cons false (.lit (.int 0)) (.cons true (.var 5) .nil))) .nil))))) .nil))))) (.cons (.ret (.bf .tuple (.cons false (.var 1) .nil))) .nil)))⟩
abbrev s74 : Stmt := inClass (top 37) 4
def d74 : DfI := ⟨74, .m "Split" "layers", "layers", "Split.layers", defArgs s74, defBody s74, defScope s74, ["self", "found", "place", "row", "scale", "small", "factor", "top", "bottom"], ["self"], e74⟩
/-- is_ratio -/
def e303 : Ev.FnD := ⟨1, 1, false, (.cons (.ret (.and (.call 301 (.cons false (.var 0) (.cons false (.lit (.int 2)) .nil)) .nil [] []) (.and (.cmp .Gt (.idx (.var 0) (.lit (.int 1))) (.lit (.int 0))) (.cmp .Eq (.call 71 (.cons false (.idx (.var 0) (.lit (.int 0))) (.cons false (.idx (.var 0) (.lit (.int 1))) .nil)) .nil [] []) (.lit (.int 1)))))) .nil)⟩
abbrev s303 : Stmt := top 57
def d303 : DfI := ⟨303, .g "is_ratio", "is_ratio", "is_ratio", defArgs s303, defBody s303, defScope s303, ["value"], ["value"], e303⟩
/-- are_layers -/
def e304 : Ev.FnD := ⟨2, 6, false, (.cons (.ifs (.or (.not (.isi (.var 1) .tup)) (.not (.bf .all (.cons false (.comp false (.v 2 false) (.val (.var 1)) .nil (.call 305 (.cons false (.var 2) (.cons false (.bf .len (.cons false (.var 0) .nil)) .nil)) .nil [] [])) .nil)))) (.cons (.ret (.lit (.bl false))) .nil) .nil) (.cons (.asg (.t (.v 3 false)) (.comp2 false (.v 4 false) (.rng (.cons false (.bf .len (.cons false (.var 0) .nil)) .nil)) .nil (.v 5 false) (.rng (.cons false (.var 4) .nil)) .nil (.tup (.cons false (.var 4) (.cons false (.var 5) .nil))))) (.cons (.ret (.bf .all (.cons false (.comp false (.tup [.v 4 false, .v 5 false]) (.val (.var 3)) .nil (.cmp .Eq (.call 306 (.cons false (.var 1) (.cons false (.var 4) (.cons false (.var 5) .nil))) .nil [] []) (.tup (.cons false (.idx (.idx (.var 0) (.var 4)) (.var 5)) (.cons false (.lit (.int 1)) .nil))))) .nil))) .nil)))⟩
abbrev s304 : Stmt := top 54
def d304 : DfI := ⟨304, .g "are_layers", "are_layers", "are_layers", defArgs s304, defBody s304, defScope s304, ["rows", "value", "layer", "pairs", "one", "other"], ["rows", "value"], e304⟩
/-- are_numbers -/
def e301 : Ev.FnD := ⟨2, 3, false, (.cons (.ret (.and (.isi (.var 0) .tup) (.and (.cmp .Eq (.bf .len (.cons false (.var 0) .nil)) (.var 1)) (.bf .all (.cons false (.comp false (.v 2 false) (.val (.var 0)) .nil (.call 19 (.cons false (.var 2) .nil) .nil [] [])) .nil))))) .nil)⟩
abbrev s301 : Stmt := top 51
def d301 : DfI := ⟨301, .g "are_numbers", "are_numbers", "are_numbers", defArgs s301, defBody s301, defScope s301, ["value", "size", "number"], ["value", "size"], e301⟩
/-- is_square -/
def e18 : Ev.FnD := ⟨1, 1, false, (.cons (.ret (.call 15 (.cons false (.var 0) (.cons false (.lit (.int 0)) (.cons false (.lit (.int 1000000000)) .nil))) .nil [] [])) .nil)⟩
abbrev s18 : Stmt := top 11
def d18 : DfI := ⟨18, .g "is_square", "is_square", "is_square", defArgs s18, defBody s18, defScope s18, ["value"], ["value"], e18⟩
/-- dimension_of -/
def e59 : Ev.FnD := ⟨1, 2, false, (.cons (.asg (.t (.v 1 false)) (.make 1 true (.cons false (.var 0) .nil) .nil [] [])) (.cons (.ret (.ite (.meth (.var 1) 1 .nil .nil [] []) (.bf .len (.cons false (.attr (.var 1) 4) .nil)) (.lit .non))) .nil))⟩
abbrev s59 : Stmt := top 38
def d59 : DfI := ⟨59, .g "dimension_of", "dimension_of", "dimension_of", defArgs s59, defBody s59, defScope s59, ["rows", "split"], ["rows"], e59⟩
/-- first_pivot -/
def e105 : Ev.FnD := ⟨3, 4, false, (.cons (.fors (.v 3 false) (.rng (.cons false (.var 2) (.cons false (.bf .len (.cons false (.var 0) .nil)) .nil))) (.cons (.ifs (.cmp .NotEq (.idx (.idx (.idx (.var 0) (.var 3)) (.var 1)) (.lit (.int 0))) (.lit (.int 0))) (.cons (.ret (.var 3)) .nil) .nil) .nil)) (.cons (.ret (.lit .non)) .nil))⟩
abbrev s105 : Stmt := top 29
def d105 : DfI := ⟨105, .g "first_pivot", "first_pivot", "first_pivot", defArgs s105, defBody s105, defScope s105, ["rows", "column", "done", "place"], ["rows", "column", "done"], e105⟩
/-- cleared -/
def e106 : Ev.FnD := ⟨3, 11, false, (.cons (.asg (.t (.v 3 false)) (.idx (.idx (.var 0) (.var 1)) (.var 2))) (.cons (.asg (.t (.v 4 false)) (.comp false (.v 5 false) (.val (.idx (.var 0) (.var 1))) .nil (.call 107 (.cons false (.var 5) (.cons false (.var 3) .nil)) .nil [] []))) (.cons (.asg (.t (.v 6 true)) (.lst false .nil)) (.cons (.fors (.tup [.v 7 false, .v 8 false]) (.enum (.var 0)) (.cons (.asg (.t (.v 9 false)) (.idx (.var 8) (.var 2))) (.cons (.appO 6 (.ite (.cmp .Eq (.var 7) (.var 1)) (.var 4) (.comp false (.tup [.v 5 false, .v 10 false]) (.zip (.var 8) (.var 4)) .nil (.call 109 (.cons false (.var 5) (.cons false (.call 108 (.cons false (.var 9) (.cons false (.var 10) .nil)) .nil [] []) .nil)) .nil [] [])))) .nil))) (.cons (.retT 6) .nil)))))⟩
abbrev s106 : Stmt := top 30
def d106 : DfI := ⟨106, .g "cleared", "cleared", "cleared", defArgs s106, defBody s106, defScope s106, ["rows", "place", "column", "pivot", "own", "entry", "found", "other", "row", "factor", "mine"], ["rows", "place", "column"], e106⟩
/-- divisor -/
def e71 : Ev.FnD := ⟨2, 2, false, (.cons (.whl (.cmp .NotEq (.var 1) (.lit (.int 0))) (.cons (.par [0, 1] (.cons false (.var 1) (.cons false (.bin .Mod (.bf .int (.cons false (.var 0) .nil)) (.var 1)) .nil))) .nil)) (.cons (.ret (.bf .abs (.cons false (.var 0) .nil))) .nil))⟩
abbrev s71 : Stmt := top 21
def d71 : DfI := ⟨71, .g "divisor", "divisor", "divisor", defArgs s71, defBody s71, defScope s71, ["one", "other"], ["one", "other"], e71⟩
/-- reduced -/
def e68 : Ev.FnD := ⟨1, 3, false, (.cons (.asg (.t (.v 1 false)) (.lit (.int 0))) (.cons (.fors (.v 2 false) (.val (.var 0)) (.cons (.asg (.t (.v 1 false)) (.call 71 (.cons false (.var 1) (.cons false (.var 2) .nil)) .nil [] [])) .nil)) (.cons (.ret (.bf .tuple (.cons false (.comp false (.v 2 false) (.val (.var 0)) .nil (.bin .FloorDiv (.var 2) (.bf .max (.cons false (.var 1) (.cons false (.lit (.int 1)) .nil))))) .nil))) .nil)))⟩
abbrev s68 : Stmt := top 28
def d68 : DfI := ⟨68, .g "reduced", "reduced", "reduced", defArgs s68, defBody s68, defScope s68, ["numbers", "common", "number"], ["numbers"], e68⟩
/-- form_of -/
def e61 : Ev.FnD := ⟨1, 5, false, (.cons (.asg (.t (.v 1 false)) (.idx (.var 0) (.lit (.int 0)))) (.cons (.asg (.t (.v 2 false)) (.lrg2 (.lit (.int 1)) (.bf .len (.cons false (.var 0) .nil)))) (.cons (.ret (.comp false (.v 4 false) (.val (.var 2)) .nil (.comp false (.v 3 false) (.val (.var 2)) .nil (.bin .Sub (.bin .Add (.idx (.var 1) (.var 4)) (.idx (.var 1) (.var 3))) (.idx (.idx (.var 0) (.var 4)) (.var 3)))))) .nil)))⟩
abbrev s61 : Stmt := top 33
def d61 : DfI := ⟨61, .g "form_of", "form_of", "form_of", defArgs s61, defBody s61, defScope s61, ["rows", "first", "things", "other", "one"], ["rows"], e61⟩
/-- above_nought -/
def e67 : Ev.FnD := ⟨1, 3, false, (.cons (.fors (.tup [.v 1 false, .v 2 false]) (.enum (.var 0)) (.cons (.ifs (.cmp .Gt (.idx (.var 2) (.var 1)) (.lit (.int 0))) (.cons (.ret (.var 1)) .nil) .nil) .nil)) (.cons (.ret (.lit .non)) .nil))⟩
abbrev s67 : Stmt := top 36
def d67 : DfI := ⟨67, .g "above_nought", "above_nought", "above_nought", defArgs s67, defBody s67, defScope s67, ["rows", "place", "row"], ["rows"], e67⟩
/-- without -/
def e65 : Ev.FnD := ⟨3, 11, false, (.cons (.asg (.t (.v 3 false)) (.idx (.var 0) (.var 2))) (.cons (.asg (.t (.v 4 false)) (.bf .abs (.cons false (.idx (.var 3) (.var 2)) .nil))) (.cons (.asg (.t (.v 5 false)) (.ite (.cmp .Gt (.idx (.var 3) (.var 2)) (.lit (.int 0))) (.lit (.int 1)) (.neg (.lit (.int 1))))) (.cons (.asg (.t (.v 6 true)) (.lst false .nil)) (.cons (.fors (.v 7 false) (.val (.var 0)) (.cons (.appO 6 (.comp false (.tup [.v 8 false, .v 9 false]) (.zip (.var 7) (.var 3)) .nil (.bin .Sub (.bin .Mult (.var 4) (.var 8)) (.bin .Mult (.bin .Mult (.var 5) (.idx (.var 7) (.var 2))) (.var 9))))) .nil)) (.cons (.asg (.t (.v 1 false)) (.bin .Mult (.var 1) (.var 4))) (.cons (.frz 6) (.cons (.asg (.t (.v 10 false)) (.call 70 (.cons false (.var 6) (.cons false (.var 1) .nil)) .nil [] [])) (.cons (.ret (.tup (.cons false (.comp false (.v 7 false) (.val (.var 6)) .nil (.comp false (.v 8 false) (.val (.var 7)) .nil (.bin .FloorDiv (.var 8) (.var 10)))) (.cons false (.bin .FloorDiv (.var 1) (.var 10)) .nil)))) .nil)))))))))⟩
abbrev s65 : Stmt := top 35
def d65 : DfI := ⟨65, .g "without", "without", "without", defArgs s65, defBody s65, defScope s65, ["rows", "scale", "place", "own", "pivot", "sign", "fresh", "row", "entry", "mine", "common"], ["rows", "scale", "place"], e65⟩
/-- lowest -/
def e69 : Ev.FnD := ⟨2, 3, false, (.cons (.asg (.t (.v 2 false)) (.ite (.cmp .Gt (.var 1) (.lit (.int 0))) (.call 71 (.cons false (.var 0) (.cons false (.var 1) .nil)) .nil [] []) (.neg (.call 71 (.cons false (.var 0) (.cons false (.var 1) .nil)) .nil [] [])))) (.cons (.ret (.tup (.cons false (.bin .FloorDiv (.var 0) (.var 2)) (.cons false (.bin .FloorDiv (.var 1) (.var 2)) .nil)))) .nil))⟩
abbrev s69 : Stmt := top 22
def d69 : DfI := ⟨69, .g "lowest", "lowest", "lowest", defArgs s69, defBody s69, defScope s69, ["top", "bottom", "common"], ["top", "bottom"], e69⟩
/-- is_layer -/
def e305 : Ev.FnD := ⟨2, 2, false, (.cons (.ifs (.or (.not (.isi (.var 0) .tup)) (.or (.cmp .NotEq (.bf .len (.cons false (.var 0) .nil)) (.lit (.int 3))) (.or (.not (.call 301 (.cons false (.slc (.var 0) .none (.some (.lit (.int 2)))) (.cons false (.lit (.int 2)) .nil)) .nil [] [])) (.cmp .Lt (.bf .min (.cons false (.slc (.var 0) .none (.some (.lit (.int 2)))) .nil)) (.lit (.int 1)))))) (.cons (.ret (.lit (.bl false))) .nil) .nil) (.cons (.ret (.call 301 (.cons false (.idx (.var 0) (.lit (.int 2))) (.cons false (.var 1) .nil)) .nil [] [])) .nil))⟩
abbrev s305 : Stmt := top 52
def d305 : DfI := ⟨305, .g "is_layer", "is_layer", "is_layer", defArgs s305, defBody s305, defScope s305, ["value", "size"], ["value", "size"], e305⟩
/-- layered -/
def e306 : Ev.FnD := ⟨3, 7, false, (.cons (.asg (.t (.v 3 false)) (.tup (.cons false (.lit (.int 0)) (.cons false (.lit (.int 1)) .nil)))) (.cons (.fors (.tup [.v 4 false, .v 5 false, .v 6 false]) (.val (.var 0)) (.cons (.asg (.t (.v 3 false)) (.call 110 (.cons false (.var 3) (.cons false (.call 69 (.cons false (.bin .Mult (.var 4) (.bin .Pow (.bin .Sub (.idx (.var 6) (.var 1)) (.idx (.var 6) (.var 2))) (.lit (.int 2)))) (.cons false (.var 5) .nil)) .nil [] []) .nil)) .nil [] [])) .nil)) (.cons (.ret (.var 3)) .nil)))⟩
abbrev s306 : Stmt := top 53
def d306 : DfI := ⟨306, .g "layered", "layered", "layered", defArgs s306, defBody s306, defScope s306, ["paper", "one", "other", "found", "top", "bottom", "row"], ["paper", "one", "other"], e306⟩
/-- is_integer -/
def e19 : Ev.FnD := ⟨1, 1, false, (.cons (.ret (.and (.isi (.var 0) .int) (.not (.isi (.var 0) .bool)))) .nil)⟩
abbrev s19 : Stmt := top 9
def d19 : DfI := ⟨19, .g "is_integer", "is_integer", "is_integer", defArgs s19, defBody s19, defScope s19, ["value"], ["value"], e19⟩
/-- is_between -/
def e15 : Ev.FnD := ⟨3, 3, false, (.cons (.ret (.and (.call 19 (.cons false (.var 0) .nil) .nil [] []) (.chain .LtE .LtE (.var 1) (.var 0) (.var 2)))) .nil)⟩
abbrev s15 : Stmt := top 10
def d15 : DfI := ⟨15, .g "is_between", "is_between", "is_between", defArgs s15, defBody s15, defScope s15, ["value", "low", "high"], ["value", "low", "high"], e15⟩
/-- quotient -/
def e107 : Ev.FnD := ⟨2, 2, false, (.cons (.ret (.call 69 (.cons false (.bin .Mult (.idx (.var 0) (.lit (.int 0))) (.idx (.var 1) (.lit (.int 1)))) (.cons false (.bin .Mult (.idx (.var 0) (.lit (.int 1))) (.idx (.var 1) (.lit (.int 0)))) .nil)) .nil [] [])) .nil)⟩
abbrev s107 : Stmt := top 26
def d107 : DfI := ⟨107, .g "quotient", "quotient", "quotient", defArgs s107, defBody s107, defScope s107, ["one", "other"], ["one", "other"], e107⟩
/-- product -/
def e108 : Ev.FnD := ⟨2, 2, false, (.cons (.ret (.call 69 (.cons false (.bin .Mult (.idx (.var 0) (.lit (.int 0))) (.idx (.var 1) (.lit (.int 0)))) (.cons false (.bin .Mult (.idx (.var 0) (.lit (.int 1))) (.idx (.var 1) (.lit (.int 1)))) .nil)) .nil [] [])) .nil)⟩
abbrev s108 : Stmt := top 25
def d108 : DfI := ⟨108, .g "product", "product", "product", defArgs s108, defBody s108, defScope s108, ["one", "other"], ["one", "other"], e108⟩
/-- taken -/
def e109 : Ev.FnD := ⟨2, 2, false, (.cons (.ret (.call 110 (.cons false (.var 0) (.cons false (.tup (.cons false (.neg (.idx (.var 1) (.lit (.int 0)))) (.cons false (.idx (.var 1) (.lit (.int 1))) .nil))) .nil)) .nil [] [])) .nil)⟩
abbrev s109 : Stmt := top 24
def d109 : DfI := ⟨109, .g "taken", "taken", "taken", defArgs s109, defBody s109, defScope s109, ["one", "other"], ["one", "other"], e109⟩
/-- common_of -/
def e70 : Ev.FnD := ⟨2, 4, false, (.cons (.fors (.v 2 false) (.val (.var 0)) (.cons (.fors (.v 3 false) (.val (.var 2)) (.cons (.asg (.t (.v 1 false)) (.call 71 (.cons false (.var 1) (.cons false (.var 3) .nil)) .nil [] [])) .nil)) .nil)) (.cons (.ret (.var 1)) .nil))⟩
abbrev s70 : Stmt := top 34
def d70 : DfI := ⟨70, .g "common_of", "common_of", "common_of", defArgs s70, defBody s70, defScope s70, ["rows", "scale", "row", "entry"], ["rows", "scale"], e70⟩
/-- added -/
def e110 : Ev.FnD := ⟨2, 2, false, (.cons (.ret (.call 69 (.cons false (.bin .Add (.bin .Mult (.idx (.var 0) (.lit (.int 0))) (.idx (.var 1) (.lit (.int 1)))) (.bin .Mult (.idx (.var 1) (.lit (.int 0))) (.idx (.var 0) (.lit (.int 1))))) (.cons false (.bin .Mult (.idx (.var 0) (.lit (.int 1))) (.idx (.var 1) (.lit (.int 1)))) .nil)) .nil [] [])) .nil)⟩
abbrev s110 : Stmt := top 23
def d110 : DfI := ⟨110, .g "added", "added", "added", defArgs s110, defBody s110, defScope s110, ["one", "other"], ["one", "other"], e110⟩
def anL : List PySem.Str := (["rows", "is_whole", "layers", "weights", "steps", "rest", "below", "value", "index", "limit", "view", "past", "busy", "change", "swap", "table", "needed", "check_free", "changed", "placed"] : List PySem.Str) ++ (["swapped", "lengths", "take", "undo", "earlier", "do_all", "trial", "tray", "sight", "dimension", "say", "square", "tried"] : List PySem.Str)
def gls : List (PySem.Str × Gv) := ([("law", .fn 0), ("all", .blt), ("range", .blt), ("max", .blt), ("min", .blt), ("len", .blt), ("_law_kettle", .fn 180), ("_law_right", .fn 2), ("int", .blt), ("abs", .blt), ("_law_round_points", .fn 192), ("_law_rows", .fn 4), ("Lengths", .cls 0), ("middle", .fn 93), ("layers", .fn 44), ("sum", .blt), ("_law_low", .fn 193), ("_law_is_ball", .fn 194), ("_law_one_of", .fn 183), ("tuple", .blt)] : List (PySem.Str × Gv)) ++ ([("_law_bent", .fn 181), ("list", .blt), ("repr", .blt), ("holds", .fn 197), ("_law_sip", .fn 184), ("_law_points", .fn 23), ("isinstance", .blt), ("MOST_THINGS", .con (.int 8)), ("wrong_row", .fn 9), ("check_ball", .fn 97), ("middle_of", .fn 98), ("check_lengths", .fn 14), ("layers_of", .fn 56), ("_law_is_ratio", .fn 195), ("_law_are_layers", .fn 87), ("_law_whole_row", .fn 186), ("_law_whole", .fn 187), ("str", .blt), ("shows_ball", .fn 302), ("SHOWN", .tab ["placed", "not placed", "needs", "ball", "alike", "unlike", "range"] [("ball", 3, 302)])] : List (PySem.Str × Gv)) ++ ([("are_rows", .fn 198), ("divmod", .blt), ("enumerate", .blt), ("is_row", .fn 13), ("check_placed", .fn 95), ("solved", .fn 101), ("whole_row", .fn 102), ("Split", .cls 1), ("bool", .blt), ("is_ratio", .fn 303), ("are_layers", .fn 304), ("are_numbers", .fn 301), ("zip", .blt), ("is_square", .fn 18), ("dimension_of", .fn 59), ("first_pivot", .fn 105), ("cleared", .fn 106), ("any", .blt), ("divisor", .fn 71), ("reduced", .fn 68)] : List (PySem.Str × Gv)) ++ ([("form_of", .fn 61), ("above_nought", .fn 67), ("without", .fn 65), ("lowest", .fn 69), ("is_layer", .fn 305), ("layered", .fn 306), ("is_integer", .fn 19), ("MOST_SQUARE", .con (.int 1000000000)), ("is_between", .fn 15), ("quotient", .fn 107), ("product", .fn 108), ("taken", .fn 109), ("common_of", .fn 70), ("added", .fn 110)] : List (PySem.Str × Gv))
def tx : TxI := ⟨[d0, d180, d2, d192, d4, d21, d93, d44, d193, d194, d183, d181, d197, d184, d23, d9, d97, d98, d14, d56, d195, d87, d186, d187, d302, d198, d13, d95, d101, d102, d72, d73, d74, d303, d304, d301, d18, d59, d105, d106, d71, d68, d61, d67, d65, d69, d305, d306, d19, d15, d107, d108, d109, d70, d110],
  [⟨0, "Lengths", ⟨some 21, [], [], [0], [0]⟩⟩, ⟨1, "Split", ⟨some 72, [(1, 73), (2, 74)], [], [5, 4], [1]⟩⟩],
  gls,
  [], anF anL, fun _ => "x"⟩
abbrev P : Pg := tx.P
theorem f0 : P.fns 0 = some e0 := by rfl
theorem f180 : P.fns 180 = some e180 := by rfl
theorem f2 : P.fns 2 = some e2 := by rfl
theorem n2 : e2.ns = 19 := rfl
theorem f192 : P.fns 192 = some e192 := by rfl
theorem f4 : P.fns 4 = some e4 := by rfl
theorem f21 : P.fns 21 = some e21 := by rfl
theorem n21 : e21.ns = 3 := rfl
theorem f93 : P.fns 93 = some e93 := by rfl
theorem n93 : e93.ns = 1 := rfl
theorem f44 : P.fns 44 = some e44 := by rfl
theorem n44 : e44.ns = 1 := rfl
theorem f193 : P.fns 193 = some e193 := by rfl
theorem n193 : e193.ns = 4 := rfl
theorem f194 : P.fns 194 = some e194 := by rfl
theorem f183 : P.fns 183 = some e183 := by rfl
theorem f181 : P.fns 181 = some e181 := by rfl
theorem f197 : P.fns 197 = some e197 := by rfl
theorem f184 : P.fns 184 = some e184 := by rfl
theorem f23 : P.fns 23 = some e23 := by rfl
theorem f9 : P.fns 9 = some e9 := by rfl
theorem n9 : e9.ns = 3 := rfl
theorem f97 : P.fns 97 = some e97 := by rfl
theorem n97 : e97.ns = 1 := rfl
theorem f98 : P.fns 98 = some e98 := by rfl
theorem f14 : P.fns 14 = some e14 := by rfl
theorem n14 : e14.ns = 1 := rfl
theorem f56 : P.fns 56 = some e56 := by rfl
theorem f195 : P.fns 195 = some e195 := by rfl
theorem f87 : P.fns 87 = some e87 := by rfl
theorem f186 : P.fns 186 = some e186 := by rfl
theorem f187 : P.fns 187 = some e187 := by rfl
theorem f302 : P.fns 302 = some e302 := by rfl
theorem f198 : P.fns 198 = some e198 := by rfl
theorem f13 : P.fns 13 = some e13 := by rfl
theorem n13 : e13.ns = 5 := rfl
theorem f95 : P.fns 95 = some e95 := by rfl
theorem n95 : e95.ns = 1 := rfl
theorem f101 : P.fns 101 = some e101 := by rfl
theorem f102 : P.fns 102 = some e102 := by rfl
theorem f72 : P.fns 72 = some e72 := by rfl
theorem f73 : P.fns 73 = some e73 := by rfl
theorem n73 : e73.ns = 3 := rfl
theorem f74 : P.fns 74 = some e74 := by rfl
theorem n74 : e74.ns = 9 := rfl
theorem f303 : P.fns 303 = some e303 := by rfl
theorem f304 : P.fns 304 = some e304 := by rfl
theorem f301 : P.fns 301 = some e301 := by rfl
theorem f18 : P.fns 18 = some e18 := by rfl
theorem n18 : e18.ns = 1 := rfl
theorem f59 : P.fns 59 = some e59 := by rfl
theorem f105 : P.fns 105 = some e105 := by rfl
theorem f106 : P.fns 106 = some e106 := by rfl
theorem f71 : P.fns 71 = some e71 := by rfl
theorem n71 : e71.ns = 2 := rfl
theorem f68 : P.fns 68 = some e68 := by rfl
theorem n68 : e68.ns = 3 := rfl
theorem f61 : P.fns 61 = some e61 := by rfl
theorem n61 : e61.ns = 5 := rfl
theorem f67 : P.fns 67 = some e67 := by rfl
theorem f65 : P.fns 65 = some e65 := by rfl
theorem f69 : P.fns 69 = some e69 := by rfl
theorem n69 : e69.ns = 3 := rfl
theorem f305 : P.fns 305 = some e305 := by rfl
theorem f306 : P.fns 306 = some e306 := by rfl
theorem f19 : P.fns 19 = some e19 := by rfl
theorem n19 : e19.ns = 1 := rfl
theorem f15 : P.fns 15 = some e15 := by rfl
theorem n15 : e15.ns = 3 := rfl
theorem f107 : P.fns 107 = some e107 := by rfl
theorem f108 : P.fns 108 = some e108 := by rfl
theorem f109 : P.fns 109 = some e109 := by rfl
theorem f70 : P.fns 70 = some e70 := by rfl
theorem f110 : P.fns 110 = some e110 := by rfl
theorem c0 : P.clss 0 = some ⟨some 21, [], [], [0], [0]⟩ := by rfl
theorem c1 : P.clss 1 = some ⟨some 72, [(1, 73), (2, 74)], [], [5, 4], [1]⟩ := by rfl
theorem fns_ok : (tx.fns.all fun i => fnB tx i) = true := by decide +kernel
theorem tx_ok : TxOk tx := ⟨fun i hi => List.all_eq_true.mp fns_ok i hi, by decide +kernel, anB_ok (by decide +kernel)⟩
abbrev R : PySem.W.OpenRow := PySem.W.OpenLaw.row PySem.Challenge.rw_placedbylengths_k44_whole_papers_of_ball
def loose : List PySem.Str := (["InputError", "StateError", "NotLengths", "InvalidRows", "Unplaced", "MOST_THINGS", "MOST_SQUARE", "is_integer", "is_between", "is_square", "is_row", "wrong_row", "are_rows", "Lengths", "check_lengths", "is_order", "rows_of", "pull_of", "divisor", "lowest", "added", "taken", "product", "quotient", "whole_row", "reduced", "first_pivot", "cleared", "solved", "form_of"] : List PySem.Str) ++ (["common_of", "without", "above_nought", "Split", "dimension_of", "layers_of", "layers", "determinant", "stepped", "content_of", "with_square", "can_be_next", "orders_for", "are_numbers", "is_layer", "layered", "are_layers", "are_bars", "are_ascending", "is_ratio", "shows_placed", "shows_not_placed", "shows_needs", "shows_ball", "shows_alike", "shows_unlike", "is_range", "shows_range", "SHOWN", "holds"] : List PySem.Str) ++ (["check_placed", "middle_of", "check_ball", "middle", "_law_kettle", "_law_sip", "_law_one_of", "_law_points", "_law_rows", "_law_whole", "_law_whole_row", "_law_are_layers", "_law_is_ratio", "_law_low", "_law_is_ball", "_law_bent", "_law_round_points", "_law_right"] : List PySem.Str)
abbrev hk : PySem.W.Hook := tx.hook 5
def ob (s : PySem.W.SharedT) : He.AlT := tx.obsG 5 (HandSHeadRun.getT s)
theorem ob_eq (s : PySem.W.SharedT) : ob s = hk.obs s.abs := obsG_eq (HandSHeadRun.getT_eq s)
theorem run1t (w : World) : HandSHeadRun.RunEq R (PySem.W.view R.prog [89]) hk ob 20000 ((["InputError", "StateError", "NotLengths", "InvalidRows", "Unplaced", "MOST_THINGS", "MOST_SQUARE", "is_integer", "is_between", "is_square", "is_row", "wrong_row", "are_rows", "Lengths", "check_lengths", "is_order", "rows_of", "pull_of", "divisor", "lowest", "added", "taken", "product", "quotient", "whole_row", "reduced", "first_pivot", "cleared", "solved", "form_of"] : List PySem.Str) ++ (["common_of", "without", "above_nought", "Split", "dimension_of", "layers_of", "layers", "determinant", "stepped", "content_of", "with_square", "can_be_next", "orders_for", "are_numbers", "is_layer", "layered", "are_layers", "are_bars", "are_ascending", "is_ratio", "shows_placed", "shows_not_placed", "shows_needs", "shows_ball", "shows_alike", "shows_unlike", "is_range", "shows_range", "SHOWN", "holds"] : List PySem.Str) ++ (["check_placed", "middle_of", "check_ball", "middle", "_law_kettle", "_law_sip", "_law_one_of", "_law_points", "_law_rows", "_law_whole", "_law_whole_row", "_law_are_layers", "_law_is_ratio", "_law_low", "_law_is_ball", "_law_bent", "_law_round_points", "_law_right"] : List PySem.Str)) (ftW w true "special-get-raises") := by
  intro os
  kernel_rfl
theorem run1f (w : World) : HandSHeadRun.RunEq R (PySem.W.view R.prog [89]) hk ob 20000 ((["InputError", "StateError", "NotLengths", "InvalidRows", "Unplaced", "MOST_THINGS", "MOST_SQUARE", "is_integer", "is_between", "is_square", "is_row", "wrong_row", "are_rows", "Lengths", "check_lengths", "is_order", "rows_of", "pull_of", "divisor", "lowest", "added", "taken", "product", "quotient", "whole_row", "reduced", "first_pivot", "cleared", "solved", "form_of"] : List PySem.Str) ++ (["common_of", "without", "above_nought", "Split", "dimension_of", "layers_of", "layers", "determinant", "stepped", "content_of", "with_square", "can_be_next", "orders_for", "are_numbers", "is_layer", "layered", "are_layers", "are_bars", "are_ascending", "is_ratio", "shows_placed", "shows_not_placed", "shows_needs", "shows_ball", "shows_alike", "shows_unlike", "is_range", "shows_range", "SHOWN", "holds"] : List PySem.Str) ++ (["check_placed", "middle_of", "check_ball", "middle", "_law_kettle", "_law_sip", "_law_one_of", "_law_points", "_law_rows", "_law_whole", "_law_whole_row", "_law_are_layers", "_law_is_ratio", "_law_low", "_law_is_ball", "_law_bent", "_law_round_points", "_law_right"] : List PySem.Str)) (ftW w false "special-get-raises") := by
  intro os
  kernel_rfl
theorem run : ∀ w : World, HandSHeadRun.RunEq R (PySem.W.view R.prog [89]) hk ob 20000 ((["InputError", "StateError", "NotLengths", "InvalidRows", "Unplaced", "MOST_THINGS", "MOST_SQUARE", "is_integer", "is_between", "is_square", "is_row", "wrong_row", "are_rows", "Lengths", "check_lengths", "is_order", "rows_of", "pull_of", "divisor", "lowest", "added", "taken", "product", "quotient", "whole_row", "reduced", "first_pivot", "cleared", "solved", "form_of"] : List PySem.Str) ++ (["common_of", "without", "above_nought", "Split", "dimension_of", "layers_of", "layers", "determinant", "stepped", "content_of", "with_square", "can_be_next", "orders_for", "are_numbers", "is_layer", "layered", "are_layers", "are_bars", "are_ascending", "is_ratio", "shows_placed", "shows_not_placed", "shows_needs", "shows_ball", "shows_alike", "shows_unlike", "is_range", "shows_range", "SHOWN", "holds"] : List PySem.Str) ++ (["check_placed", "middle_of", "check_ball", "middle", "_law_kettle", "_law_sip", "_law_one_of", "_law_points", "_law_rows", "_law_whole", "_law_whole_row", "_law_are_layers", "_law_is_ratio", "_law_low", "_law_is_ball", "_law_bent", "_law_round_points", "_law_right"] : List PySem.Str)) w := run_ft "special-get-raises" run1t run1f
end My
end

section
set_option Elab.async false
set_option linter.all false
set_option maxRecDepth 100000
set_option maxHeartbeats 4000000
/-! Laws of the evaluator's loops, for what a text computes. -/
namespace Ev
open PySem (Str Operator CmpOp UnaryOp)
theorem rngL_eq (lo : Int) : ∀ n, rngL lo n = (List.range n).map fun i : Nat => AV.int (lo + (i : Int))
  | 0 => rfl
  | n + 1 => by
    rw [rngL, rngL_eq, List.range_succ_eq_map, List.map_cons, List.map_map]
    congr 1
    · simp
    · apply List.map_congr_left
      intro i _
      simp only [Function.comp, Nat.succ_eq_add_one]
      congr 1
      push_cast
      omega
theorem intsOf_map {α : Type} (f : α → Int) : ∀ l : List α, intsOf (l.map fun x => AV.int (f x)) = some (l.map f)
  | [] => rfl
  | x :: l => by simp only [List.map_cons, intsOf, intsOf_map f l, Option.map_some]
theorem boolsOf_map {α : Type} (f : α → Bool) : ∀ l : List α, boolsOf (l.map fun x => AV.bl (f x)) = some (l.map f)
  | [] => rfl
  | x :: l => by simp only [List.map_cons, boolsOf, boolsOf_map f l, Option.map_some]
/-- a comprehension whose steps change nothing -/
theorem compL_flat {α : Type} {f : α → G → R (List AV)} {g : G} {h : α → List AV} : ∀ xs : List α, (∀ x ∈ xs, f x g = .ok (h x) g) → compL f xs g = .ok (xs.flatMap h) g
  | [], _ => rfl
  | x :: xs, H => by
    rw [compL, H x (List.mem_cons_self ..), R.bind_ok, compL_flat xs fun y hy => H y (List.mem_cons_of_mem _ hy), R.bind_ok, List.flatMap_cons]
theorem compL_map {α : Type} {f : α → G → R (List AV)} {g : G} {h : α → AV} (xs : List α) (H : ∀ x ∈ xs, f x g = .ok [h x] g) : compL f xs g = .ok (xs.map h) g := by
  rw [compL_flat xs H]
  congr 1
  induction xs with
  | nil => rfl
  | cons x xs ih => rw [List.flatMap_cons, ih fun y hy => H y (List.mem_cons_of_mem _ hy)]; rfl
theorem compL_filter {α : Type} {f : α → G → R (List AV)} {g : G} {h : α → AV} {p : α → Bool} (xs : List α) (H : ∀ x ∈ xs, f x g = .ok (if p x then [h x] else []) g) : compL f xs g = .ok ((xs.filter p).map h) g := by
  rw [compL_flat xs H]
  congr 1
  induction xs with
  | nil => rfl
  | cons x xs ih =>
    rw [List.flatMap_cons, ih fun y hy => H y (List.mem_cons_of_mem _ hy)]
    cases hp : p x
    · rw [List.filter_cons_of_neg (by simp [hp])]; rfl
    · rw [List.filter_cons_of_pos hp]; rfl
/-- the same over items that are images -/
theorem compL_img {α β : Type} {f : β → G → R (List AV)} (k : α → β) (xs : List α) (g : G) : compL f (xs.map k) g = compL (fun x => f (k x)) xs g := by
  induction xs generalizing g with
  | nil => rfl
  | cons x xs ih =>
    simp only [List.map_cons, compL]
    congr 1; funext a g1
    rw [ih]
/-- a comprehension whose steps change the store -/
theorem compL_st {α : Type} {f : α → G → R (List AV)} (I : G → Prop) (Q : AV → Prop) : ∀ (xs : List α) (g : G), I g → (∀ x ∈ xs, ∀ g, I g → ∃ v g', f x g = .ok [v] g' ∧ Q v ∧ I g') → ∃ vs g', compL f xs g = .ok vs g' ∧ vs.length = xs.length ∧ (∀ v ∈ vs, Q v) ∧ I g'
  | [], g, hI, _ => ⟨[], g, rfl, rfl, by simp, hI⟩
  | x :: xs, g, hI, H => by
    obtain ⟨v, g1, h1, hv, hI1⟩ := H x (List.mem_cons_self ..) g hI
    obtain ⟨vs, g2, h2, hl, hvs, hI2⟩ := compL_st I Q xs g1 hI1 fun y hy => H y (List.mem_cons_of_mem _ hy)
    refine ⟨v :: vs, g2, ?_, by simp [hl], ?_, hI2⟩
    · rw [compL, h1, R.bind_ok, h2, R.bind_ok]; rfl
    · intro w hw
      rcases List.mem_cons.mp hw with rfl | hw
      · exact hv
      · exact hvs w hw
section
variable {P : Pg} {call : CallT}
/-- what a suite hands back -/
def rv (r : R (Option AV × Sl)) : R AV := r.bind fun x g => .ok (x.1.getD .non) g
@[simp] theorem rv_ok (o : Option AV) (σ : Sl) (g : G) : rv (.ok (o, σ) g) = .ok (o.getD .non) g := rfl
end
theorem zipL_eq : ∀ xs ys : List AV, zipL xs ys = (xs.zip ys).map fun p => AV.tup [p.1, p.2]
  | [], _ => by simp [zipL]
  | _ :: _, [] => by simp [zipL]
  | x :: xs, y :: ys => by simp [zipL, zipL_eq xs ys]
theorem enumL_eq : ∀ (k : Nat) (xs : List AV), enumL (k : Int) xs = (xs.zipIdx k).map fun p => AV.tup [.int (p.2 : Int), p.1]
  | k, [] => rfl
  | k, x :: xs => by
    have h := enumL_eq (k + 1) xs
    rw [enumL, List.zipIdx_cons, List.map_cons, ← h]
    rfl
end Ev
end

section
set_option Elab.async false
set_option linter.all false
set_option maxRecDepth 100000
/-! The evaluator's equations, one a form. -/
namespace Ev
open PySem (Str Operator CmpOp UnaryOp)
section
variable (k : Bool) (xs : List AV) (g : G) (σ : Sl)
theorem qlook_int (i : Int) : AV.look (.int i) = (.int i) := rfl
theorem qlook_bl (b : Bool) : AV.look (.bl b) = (.bl b) := rfl
theorem qlook_non  : AV.look .non = .non := rfl
theorem qlook_str (s : Str) : AV.look (.str s) = (.str s) := rfl
theorem qlook_tup  : AV.look (.tup xs) = (.tup xs) := rfl
theorem qlook_lst  : AV.look (.lst xs) = (.lst xs) := rfl
theorem qlook_ins (c : Nat) (ns : List Nat) : AV.look (.ins c ns xs) = (.ins c ns xs) := rfl
theorem qlook_ref (n : Nat) : AV.look (.ref n) = (.ref n) := rfl
theorem qlook_fn (n : Nat) : AV.look (.fn n) = (.fn n) := rfl
theorem qlook_cls (n : Nat) : AV.look (.cls n) = (.cls n) := rfl
theorem qlook_scr  : AV.look (.scr xs) = (.scr xs) := rfl
theorem qlook_own : AV.look (.own xs) = AV.bor false xs := rfl
theorem qlook_bor : AV.look (.bor k xs) = AV.bor k xs := rfl
theorem qhand_int (i : Int) : AV.hand (.int i) = (.int i) := rfl
theorem qhand_bl (b : Bool) : AV.hand (.bl b) = (.bl b) := rfl
theorem qhand_non  : AV.hand .non = .non := rfl
theorem qhand_str (s : Str) : AV.hand (.str s) = (.str s) := rfl
theorem qhand_tup  : AV.hand (.tup xs) = (.tup xs) := rfl
theorem qhand_lst  : AV.hand (.lst xs) = (.lst xs) := rfl
theorem qhand_ins (c : Nat) (ns : List Nat) : AV.hand (.ins c ns xs) = (.ins c ns xs) := rfl
theorem qhand_ref (n : Nat) : AV.hand (.ref n) = (.ref n) := rfl
theorem qhand_fn (n : Nat) : AV.hand (.fn n) = (.fn n) := rfl
theorem qhand_cls (n : Nat) : AV.hand (.cls n) = (.cls n) := rfl
theorem qhand_scr  : AV.hand (.scr xs) = (.scr xs) := rfl
theorem qhand_own : AV.hand (.own xs) = AV.lst xs := rfl
theorem qhand_bor : AV.hand (.bor k xs) = AV.bor k xs := rfl
theorem qarg_int (i : Int) : AV.arg (.int i) = (.int i) := rfl
theorem qarg_bl (b : Bool) : AV.arg (.bl b) = (.bl b) := rfl
theorem qarg_non  : AV.arg .non = .non := rfl
theorem qarg_str (s : Str) : AV.arg (.str s) = (.str s) := rfl
theorem qarg_tup  : AV.arg (.tup xs) = (.tup xs) := rfl
theorem qarg_lst  : AV.arg (.lst xs) = (.lst xs) := rfl
theorem qarg_ins (c : Nat) (ns : List Nat) : AV.arg (.ins c ns xs) = (.ins c ns xs) := rfl
theorem qarg_ref (n : Nat) : AV.arg (.ref n) = (.ref n) := rfl
theorem qarg_fn (n : Nat) : AV.arg (.fn n) = (.fn n) := rfl
theorem qarg_cls (n : Nat) : AV.arg (.cls n) = (.cls n) := rfl
theorem qarg_scr  : AV.arg (.scr xs) = (.scr xs) := rfl
theorem qarg_own : AV.arg (.own xs) = AV.lst xs := rfl
theorem qarg_bor : AV.arg (.bor k xs) = AV.bor true xs := rfl
theorem qkeep_int (i : Int) : AV.keep (.int i) = some (.int i) := rfl
theorem qkeep_bl (b : Bool) : AV.keep (.bl b) = some (.bl b) := rfl
theorem qkeep_non  : AV.keep .non = some .non := rfl
theorem qkeep_str (s : Str) : AV.keep (.str s) = some (.str s) := rfl
theorem qkeep_tup  : AV.keep (.tup xs) = some (.tup xs) := rfl
theorem qkeep_lst  : AV.keep (.lst xs) = some (.lst xs) := rfl
theorem qkeep_ins (c : Nat) (ns : List Nat) : AV.keep (.ins c ns xs) = some (.ins c ns xs) := rfl
theorem qkeep_ref (n : Nat) : AV.keep (.ref n) = some (.ref n) := rfl
theorem qkeep_fn (n : Nat) : AV.keep (.fn n) = some (.fn n) := rfl
theorem qkeep_cls (n : Nat) : AV.keep (.cls n) = some (.cls n) := rfl
theorem qkeep_scr  : AV.keep (.scr xs) = some (.scr xs) := rfl
theorem qkeep_own : AV.keep (.own xs) = some (.lst xs) := rfl
theorem qback_int (i : Int) : AV.back (.int i) = some (.int i) := rfl
theorem qback_bl (b : Bool) : AV.back (.bl b) = some (.bl b) := rfl
theorem qback_non  : AV.back .non = some .non := rfl
theorem qback_str (s : Str) : AV.back (.str s) = some (.str s) := rfl
theorem qback_tup  : AV.back (.tup xs) = some (.tup xs) := rfl
theorem qback_lst  : AV.back (.lst xs) = some (.lst xs) := rfl
theorem qback_ins (c : Nat) (ns : List Nat) : AV.back (.ins c ns xs) = some (.ins c ns xs) := rfl
theorem qback_ref (n : Nat) : AV.back (.ref n) = some (.ref n) := rfl
theorem qback_fn (n : Nat) : AV.back (.fn n) = some (.fn n) := rfl
theorem qback_cls (n : Nat) : AV.back (.cls n) = some (.cls n) := rfl
theorem qback_scr  : AV.back (.scr xs) = some (.scr xs) := rfl
theorem qback_own : AV.back (.own xs) = some (.own xs) := rfl
theorem qput_int (i : Int) : AV.put k (.int i) = some (.int i) := rfl
theorem qput_bl (b : Bool) : AV.put k (.bl b) = some (.bl b) := rfl
theorem qput_non  : AV.put k .non = some .non := rfl
theorem qput_str (s : Str) : AV.put k (.str s) = some (.str s) := rfl
theorem qput_tup  : AV.put k (.tup xs) = some (.tup xs) := rfl
theorem qput_lst  : AV.put k (.lst xs) = some (.lst xs) := rfl
theorem qput_ins (c : Nat) (ns : List Nat) : AV.put k (.ins c ns xs) = some (.ins c ns xs) := rfl
theorem qput_ref (n : Nat) : AV.put k (.ref n) = some (.ref n) := rfl
theorem qput_fn (n : Nat) : AV.put k (.fn n) = some (.fn n) := rfl
theorem qput_cls (n : Nat) : AV.put k (.cls n) = some (.cls n) := rfl
theorem qput_scr  : AV.put k (.scr xs) = some (.scr xs) := rfl
theorem qput_ownT : AV.put true (.own xs) = some (.own xs) := rfl
theorem qput_ownF : AV.put false (.own xs) = some (.lst xs) := rfl
theorem qtg_v (i : Nat) (v : AV) : tgA (.v i k) v σ = (v.put k).map fun v => σ.set i (some v) := rfl
theorem qtg_tup (ts : List Tg) (vs : List AV) : tgA (.tup ts) (.tup vs) σ = tgA.tgAs ts vs σ := rfl
theorem qtgs_nil : tgA.tgAs [] [] σ = some σ := rfl
theorem qtgs_cons (t ts v vs) : tgA.tgAs (t :: ts) (v :: vs) σ = (tgA t v σ).bind fun σ2 => tgA.tgAs ts vs σ2 := rfl
theorem qtgI_v (i : Nat) : tgI (.v i k) = [i] := rfl
theorem qtgI_tup (ts) : tgI (.tup ts) = tgI.tgIs ts := rfl
theorem qtgIs_nil : tgI.tgIs [] = [] := rfl
theorem qtgIs_cons (t ts) : tgI.tgIs (t :: ts) = tgI t ++ tgI.tgIs ts := rfl
theorem qwipe_nil : wipeA σ [] = σ := rfl
theorem qwipe_cons (v vs) : wipeA σ (v :: vs) = (wipeA σ vs).set v none := rfl
theorem qseqA_tup : seqA g (.tup xs) = some xs := rfl
theorem qseqA_lst : seqA g (.lst xs) = some xs := rfl
theorem qseqA_own : seqA g (.own xs) = some xs := rfl
theorem qseqA_bor : seqA g (.bor k xs) = some xs := rfl
theorem qseqA_scr : seqA g (.scr xs) = some xs := rfl
theorem qseqA_refL (n : Nat) : seqA g (.ref n) = seqL g (.ref n) := rfl
theorem qrev_tup : revA g (.tup xs) = some (.tup xs.reverse) := rfl
theorem qrev_lst : revA g (.lst xs) = some (.own xs.reverse) := rfl
theorem qrev_own : revA g (.own xs) = some (.own xs.reverse) := rfl
theorem qrev_bor : revA g (.bor k xs) = some (.own xs.reverse) := rfl
theorem qseqL_lst : seqL g (.lst xs) = some xs := rfl
theorem qseqL_own : seqL g (.own xs) = some xs := rfl
theorem qseqL_bor : seqL g (.bor k xs) = some xs := rfl
theorem qseqL_ref (n : Nat) (h : g[n]? = some (some (.lst xs))) : seqL g (.ref n) = some xs := by simp only [seqL, h]
theorem qsrc_tup : srcOk k (.tup xs) = true := rfl
theorem qsrc_lst : srcOk k (.lst xs) = true := rfl
theorem qsrc_own : srcOk k (.own xs) = true := rfl
theorem qsrc_scr : srcOk k (.scr xs) = true := rfl
theorem qsrc_borT : srcOk k (.bor true xs) = true := rfl
theorem qsrc_borF : srcOk false (.bor k xs) = true := by cases k <;> rfl
theorem qadd_int (i j : Int) : binop g .Add (.int i) (.int j) = some (.int (i + j)) := rfl
theorem qsub_int (i j : Int) : binop g .Sub (.int i) (.int j) = some (.int (i - j)) := rfl
theorem qmul_int (i j : Int) (h : mulOk i j = true) : binop g .Mult (.int i) (.int j) = some (.int (i * j)) := by simp only [binop, mulA, h, if_true]
theorem qpow_int (i j : Int) (h : powOk i j = true) : binop g .Pow (.int i) (.int j) = some (.int (i ^ j.toNat)) := by simp only [binop, powA, h, if_true]
theorem qfdiv_int (i j : Int) (h : divOk j = true) : binop g .FloorDiv (.int i) (.int j) = some (.int (i.fdiv j)) := by simp only [binop, fdivA, h, if_true]
theorem qmod_int (i j : Int) (h : decide (j ≠ 0) = true) : binop g .Mod (.int i) (.int j) = some (.int (i.fmod j)) := by simp only [binop, modA, h, if_true]
theorem qneg_int (i : Int) : negA (.int i) = some (.int (-i)) := rfl
theorem qcmp_Lt (i j : Int) : cmpA g .Lt (.int i) (.int j) = some (decide (i < j)) := rfl
theorem qcmp_LtE (i j : Int) : cmpA g .LtE (.int i) (.int j) = some (decide (i ≤ j)) := rfl
theorem qcmp_Gt (i j : Int) : cmpA g .Gt (.int i) (.int j) = some (decide (j < i)) := rfl
theorem qcmp_GtE (i j : Int) : cmpA g .GtE (.int i) (.int j) = some (decide (j ≤ i)) := rfl
theorem qeqA_int (i j : Int) : eqA (.int i) (.int j) = some (decide (i = j)) := by simp [eqA, dat, eqv]
theorem qcmp_EqX (x y : AV) : cmpA g .Eq x y = eqA x y := rfl
theorem qcmp_NeX (x y : AV) : cmpA g .NotEq x y = (eqA x y).map (!·) := rfl
theorem qcmp_isN (x : AV) : cmpA g .Is x .non = some (isNon x) := rfl
theorem qcmp_isnN (x : AV) : cmpA g .IsNot x .non = some (!isNon x) := rfl
theorem qisNon_int (i : Int) : isNon (.int i) = false := rfl
theorem qisNon_bl (b : Bool) : isNon (.bl b) = false := rfl
theorem qisNon_non  : isNon .non = true := rfl
theorem qisNon_str (s : Str) : isNon (.str s) = false := rfl
theorem qisNon_tup  : isNon (.tup xs) = false := rfl
theorem qisNon_lst  : isNon (.lst xs) = false := rfl
theorem qisNon_ins (c : Nat) (ns : List Nat) : isNon (.ins c ns xs) = false := rfl
theorem qisNon_ref (n : Nat) : isNon (.ref n) = false := rfl
theorem qisNon_fn (n : Nat) : isNon (.fn n) = false := rfl
theorem qisNon_cls (n : Nat) : isNon (.cls n) = false := rfl
theorem qisNon_scr  : isNon (.scr xs) = false := rfl
theorem qtru_bl (b : Bool) : truA g (.bl b) = some b := rfl
theorem qtru_int (i : Int) : truA g (.int i) = some (decide (i ≠ 0)) := rfl
theorem qtru_non : truA g .non = some false := rfl
theorem qtru_tup : truA g (.tup xs) = some (!xs.isEmpty) := rfl
theorem qtru_lst : truA g (.lst xs) = some (!xs.isEmpty) := rfl
theorem qtru_own : truA g (.own xs) = some (!xs.isEmpty) := rfl
theorem qtru_bor : truA g (.bor k xs) = some (!xs.isEmpty) := rfl
theorem qidx_tup (i : Int) : idxA g (.tup xs) (.int i) = atI xs i := rfl
theorem qlen_tup : bfA g .len [.tup xs] = some (.int (xs.length : Int)) := rfl
theorem qidx_lst (i : Int) : idxA g (.lst xs) (.int i) = atI xs i := rfl
theorem qlen_lst : bfA g .len [.lst xs] = some (.int (xs.length : Int)) := rfl
theorem qidx_own (i : Int) : idxA g (.own xs) (.int i) = atI xs i := rfl
theorem qlen_own : bfA g .len [.own xs] = some (.int (xs.length : Int)) := rfl
theorem qidx_bor (i : Int) : idxA g (.bor k xs) (.int i) = atI xs i := rfl
theorem qlen_bor : bfA g .len [.bor k xs] = some (.int (xs.length : Int)) := rfl
theorem qidx_scr (i : Int) : idxA g (.scr xs) (.int i) = atI xs i := rfl
theorem qlen_scr : bfA g .len [.scr xs] = some (.int (xs.length : Int)) := rfl
theorem qidx_ref (n : Nat) (i : Int) (h : g[n]? = some (some (.lst xs))) : idxA g (.ref n) (.int i) = atI xs i := by simp only [idxA, seqA, seqL, h]
theorem qabs (i : Int) : bfA g .abs [.int i] = some (.int (if i < 0 then -i else i)) := rfl
theorem qall_own (bs : List Bool) (h : boolsOf xs = some bs) : bfA g .all [.own xs] = some (.bl (bs.all id)) := by simp only [bfA, seqL, Option.bind_some, h, Option.map_some]
theorem qany_own (bs : List Bool) (h : boolsOf xs = some bs) : bfA g .any [.own xs] = some (.bl (bs.any id)) := by simp only [bfA, seqL, Option.bind_some, h, Option.map_some]
theorem qbint (i : Int) : bfA g .int [.int i] = some (.int i) := rfl
theorem qmax2 (i j : Int) : bfA g .max [.int i, .int j] = some (.int (if i < j then j else i)) := rfl
theorem qmin2 (i j : Int) : bfA g .min [.int i, .int j] = some (.int (if j < i then j else i)) := rfl
theorem qtuple_tup : bfA g .tuple [.tup xs] = some (.tup xs) := rfl
theorem qlist_tup : bfA g .list [.tup xs] = some (.own xs) := rfl
theorem qtuple_lst : bfA g .tuple [.lst xs] = some (.tup xs) := rfl
theorem qlist_lst : bfA g .list [.lst xs] = some (.own xs) := rfl
theorem qtuple_own : bfA g .tuple [.own xs] = some (.tup xs) := rfl
theorem qlist_own : bfA g .list [.own xs] = some (.own xs) := rfl
theorem qtuple_bor : bfA g .tuple [.bor k xs] = some (.tup xs) := rfl
theorem qlist_bor : bfA g .list [.bor k xs] = some (.own xs) := rfl
theorem qtuple_scr : bfA g .tuple [.scr xs] = some (.tup xs) := rfl
theorem qlist_scr : bfA g .list [.scr xs] = some (.own xs) := rfl
theorem qis_int_int (P : Pg) (i : Int) : isinst P g .int (.int i) = some true := rfl
theorem qis_int_bool (P : Pg) (i : Int) : isinst P g .bool (.int i) = some false := rfl
theorem qis_int_str (P : Pg) (i : Int) : isinst P g .str (.int i) = some false := rfl
theorem qis_int_tup (P : Pg) (i : Int) : isinst P g .tup (.int i) = some false := rfl
theorem qis_int_lst (P : Pg) (i : Int) : isinst P g .lst (.int i) = some false := rfl
theorem qis_bl_int (P : Pg) (b : Bool) : isinst P g .int (.bl b) = some true := rfl
theorem qis_bl_bool (P : Pg) (b : Bool) : isinst P g .bool (.bl b) = some true := rfl
theorem qis_bl_str (P : Pg) (b : Bool) : isinst P g .str (.bl b) = some false := rfl
theorem qis_bl_tup (P : Pg) (b : Bool) : isinst P g .tup (.bl b) = some false := rfl
theorem qis_bl_lst (P : Pg) (b : Bool) : isinst P g .lst (.bl b) = some false := rfl
theorem qis_non_int (P : Pg)  : isinst P g .int .non = some false := rfl
theorem qis_non_bool (P : Pg)  : isinst P g .bool .non = some false := rfl
theorem qis_non_str (P : Pg)  : isinst P g .str .non = some false := rfl
theorem qis_non_tup (P : Pg)  : isinst P g .tup .non = some false := rfl
theorem qis_non_lst (P : Pg)  : isinst P g .lst .non = some false := rfl
theorem qis_str_int (P : Pg) (s : Str) : isinst P g .int (.str s) = some false := rfl
theorem qis_str_bool (P : Pg) (s : Str) : isinst P g .bool (.str s) = some false := rfl
theorem qis_str_str (P : Pg) (s : Str) : isinst P g .str (.str s) = some true := rfl
theorem qis_str_tup (P : Pg) (s : Str) : isinst P g .tup (.str s) = some false := rfl
theorem qis_str_lst (P : Pg) (s : Str) : isinst P g .lst (.str s) = some false := rfl
theorem qis_tup_int (P : Pg)  : isinst P g .int (.tup xs) = some false := rfl
theorem qis_tup_bool (P : Pg)  : isinst P g .bool (.tup xs) = some false := rfl
theorem qis_tup_str (P : Pg)  : isinst P g .str (.tup xs) = some false := rfl
theorem qis_tup_tup (P : Pg)  : isinst P g .tup (.tup xs) = some true := rfl
theorem qis_tup_lst (P : Pg)  : isinst P g .lst (.tup xs) = some false := rfl
theorem qis_lst_int (P : Pg)  : isinst P g .int (.lst xs) = some false := rfl
theorem qis_lst_bool (P : Pg)  : isinst P g .bool (.lst xs) = some false := rfl
theorem qis_lst_str (P : Pg)  : isinst P g .str (.lst xs) = some false := rfl
theorem qis_lst_tup (P : Pg)  : isinst P g .tup (.lst xs) = some false := rfl
theorem qis_lst_lst (P : Pg)  : isinst P g .lst (.lst xs) = some true := rfl
theorem qis_scr_int (P : Pg)  : isinst P g .int (.scr xs) = some false := rfl
theorem qis_scr_bool (P : Pg)  : isinst P g .bool (.scr xs) = some false := rfl
theorem qis_scr_str (P : Pg)  : isinst P g .str (.scr xs) = some false := rfl
theorem qis_scr_tup (P : Pg)  : isinst P g .tup (.scr xs) = some false := rfl
theorem qis_scr_lst (P : Pg)  : isinst P g .lst (.scr xs) = some true := rfl
theorem qis_own_int (P : Pg) : isinst P g .int (.own xs) = some false := rfl
theorem qis_own_bool (P : Pg) : isinst P g .bool (.own xs) = some false := rfl
theorem qis_own_str (P : Pg) : isinst P g .str (.own xs) = some false := rfl
theorem qis_own_tup (P : Pg) : isinst P g .tup (.own xs) = some false := rfl
theorem qis_own_lst (P : Pg) : isinst P g .lst (.own xs) = some true := rfl
theorem qis_int_cls (P : Pg) (i : Int) (d : Nat) : isinst P g (.own d) (.int i) = some false := rfl
theorem qis_bl_cls (P : Pg) (b : Bool) (d : Nat) : isinst P g (.own d) (.bl b) = some false := rfl
theorem qis_non_cls (P : Pg)  (d : Nat) : isinst P g (.own d) .non = some false := rfl
theorem qis_str_cls (P : Pg) (s : Str) (d : Nat) : isinst P g (.own d) (.str s) = some false := rfl
theorem qis_tup_cls (P : Pg)  (d : Nat) : isinst P g (.own d) (.tup xs) = some false := rfl
theorem qis_lst_cls (P : Pg)  (d : Nat) : isinst P g (.own d) (.lst xs) = some false := rfl
theorem qis_scr_cls (P : Pg)  (d : Nat) : isinst P g (.own d) (.scr xs) = some false := rfl
end
end Ev
end

section
set_option Elab.async false
set_option linter.all false
set_option maxRecDepth 100000
/-! Statements step by step: what a suite comes to. -/
namespace Ev
open PySem (Str Operator CmpOp UnaryOp)
/-- a suite's run: N behind its end, Q of what it hands back -/
inductive TrS : R (Option AV × Sl) → (Sl → G → Prop) → (AV → G → Prop) → Prop where
  | n {σ : Sl} {g : G} {N : Sl → G → Prop} {Q : AV → G → Prop} (h : N σ g) : TrS (.ok (none, σ) g) N Q
  | q {v : AV} {σ : Sl} {g : G} {N : Sl → G → Prop} {Q : AV → G → Prop} (h : Q v g) : TrS (.ok (some v, σ) g) N Q
/-- a value's run -/
inductive Tr {α : Type} : R α → (α → G → Prop) → Prop where
  | v {a : α} {g : G} {Q : α → G → Prop} (h : Q a g) : Tr (.ok a g) Q
theorem Tr.get {α : Type} {r : R α} {Q : α → G → Prop} (h : Tr r Q) : ∃ v g, r = .ok v g ∧ Q v g := by
  cases h with | v h => exact ⟨_, _, rfl, h⟩
theorem Tr.eq {α : Type} {r : R α} {w : α} {g1 : G} (h : Tr r fun v g => v = w ∧ g = g1) : r = .ok w g1 := by
  obtain ⟨v, g, rfl, rfl, rfl⟩ := h.get
  rfl
theorem TrS.get {r : R (Option AV × Sl)} {N : Sl → G → Prop} {Q : AV → G → Prop} (h : TrS r N Q) : (∃ σ g, r = .ok (none, σ) g ∧ N σ g) ∨ ∃ v σ g, r = .ok (some v, σ) g ∧ Q v g := by
  cases h with
  | n h => exact .inl ⟨_, _, rfl, h⟩
  | q h => exact .inr ⟨_, _, _, rfl, h⟩
theorem TrS.mono {r : R (Option AV × Sl)} {N N' : Sl → G → Prop} {Q Q' : AV → G → Prop} (h : TrS r N Q) (hn : ∀ σ g, N σ g → N' σ g) (hq : ∀ v g, Q v g → Q' v g) : TrS r N' Q' := by
  cases h with
  | n h => exact .n (hn _ _ h)
  | q h => exact .q (hq _ _ h)
section
variable {P : Pg} {call : CallT} {N : Sl → G → Prop} {Q : AV → G → Prop}
theorem t_nil {σ : Sl} {g : G} (h : N σ g) : TrS (evSs P call .nil σ g) N Q := by rw [evSs]; exact .n h
/-- a statement, then the rest -/
theorem t_seq {s : S} {r : Ss} {σ : Sl} {g : G} (h : TrS (evS P call s σ g) (fun σ1 g1 => TrS (evSs P call r σ1 g1) N Q) Q) : TrS (evSs P call (.cons s r) σ g) N Q := by
  rw [evSs]
  rcases h.get with ⟨σ1, g1, e, h1⟩ | ⟨v, σ1, g1, e, h1⟩
  · rw [e, R.bind_ok]; exact h1
  · rw [e, R.bind_ok]; exact .q h1
theorem t_asg {t : Ta} {e : E} {r : Ss} {σ σ1 : Sl} {g g1 g2 : G} {v : AV} (he : evE P call e σ g = .ok v g1) (ha : asgA P call t v σ g1 = .ok σ1 g2) (hk : TrS (evSs P call r σ1 g2) N Q) : TrS (evSs P call (.cons (.asg t e) r) σ g) N Q := by
  rw [evSs, evS, he, R.bind_ok, ha, R.bind_ok, R.bind_ok]; exact hk
theorem t_par {is : List Nat} {es : Es} {r : Ss} {σ σ1 : Sl} {g g1 : G} {vs : List AV} (he : evEs P call es σ g = .ok vs g1) (ha : parA is vs σ = some σ1) (hk : TrS (evSs P call r σ1 g1) N Q) : TrS (evSs P call (.cons (.par is es) r) σ g) N Q := by
  rw [evSs, evS, he, R.bind_ok, ha, R.opt_some, R.bind_ok, R.bind_ok]; exact hk
theorem qps_nil {σ : Sl} {g : G} : evPs P call [] .nil σ g = .ok [] g := rfl
theorem qps_cons {i : Nat} {k : Bool} {ts : List (Nat × Bool)} {e : E} {es : Es} {σ : Sl} {g : G} : evPs P call ((i, k) :: ts) (.cons false e es) σ g = (evE P call e σ g).bind fun x g1 => match x.put k with
    | some y => (evPs P call ts es σ g1).bind fun ys g2 => .ok (y :: ys) g2
    | none => .no := rfl
theorem t_parP {ts : List (Nat × Bool)} {es : Es} {r : Ss} {σ σ1 : Sl} {g g1 : G} {vs : List AV} (he : evPs P call ts es σ g = .ok vs g1) (hs : setP ts vs σ = σ1) (hk : TrS (evSs P call r σ1 g1) N Q) : TrS (evSs P call (.cons (.parP ts es) r) σ g) N Q := by
  rw [evSs, evS, he, R.bind_ok, R.bind_ok]; subst hs; exact hk
theorem t_expr {e : E} {r : Ss} {σ : Sl} {g g1 : G} {v : AV} (he : evE P call e σ g = .ok v g1) (hk : TrS (evSs P call r σ g1) N Q) : TrS (evSs P call (.cons (.expr e) r) σ g) N Q := by
  rw [evSs, evS, he, R.bind_ok, R.bind_ok]; exact hk
theorem t_appO {i : Nat} {e : E} {r : Ss} {σ : Sl} {g g1 : G} {v w : AV} {xs : List AV} (hx : σ[i]? = some (some (.own xs))) (he : evE P call e σ g = .ok v g1) (hv : v.keep = some w) (hl : xs.length < Ev.sizeLine) (hk : TrS (evSs P call r (σ.set i (some (.own (xs ++ [w])))) g1) N Q) : TrS (evSs P call (.cons (.appO i e) r) σ g) N Q := by
  rw [evSs, evS, hx]; simp only [he, R.bind_ok, hv, if_pos hl]; exact hk
theorem t_app {o e : E} {r : Ss} {σ : Sl} {g g1 g2 : G} {n : Nat} {v w : AV} {xs ys : List AV} (ho : evE P call o σ g = .ok (.ref n) g1) (h1 : g1[n]? = some (some (.lst ys))) (he : evE P call e σ g1 = .ok v g2) (hv : v.keep = some w) (h2 : g2[n]? = some (some (.lst xs))) (hl : xs.length < Ev.sizeLine) (hk : TrS (evSs P call r σ (g2.set n (some (.lst (xs ++ [w]))))) N Q) : TrS (evSs P call (.cons (.app o e) r) σ g) N Q := by
  rw [evSs, evS, ho, R.bind_ok]; simp only [h1, he, R.bind_ok, hv, h2, if_pos hl]; exact hk
theorem t_frz {i : Nat} {r : Ss} {σ : Sl} {g : G} {xs : List AV} (hx : σ[i]? = some (some (.own xs))) (hk : TrS (evSs P call r (σ.set i (some (.lst xs))) g) N Q) : TrS (evSs P call (.cons (.frz i) r) σ g) N Q := by
  rw [evSs, evS, hx]; exact hk
theorem t_ifT {c : E} {a b r : Ss} {σ : Sl} {g g1 : G} (hc : evC P call c σ g = .ok true g1) (ha : TrS (evSs P call a σ g1) (fun σ g => TrS (evSs P call r σ g) N Q) Q) : TrS (evSs P call (.cons (.ifs c a b) r) σ g) N Q := by
  refine t_seq ?_
  rw [evS, hc, R.bind_ok, if_pos rfl]; exact ha
theorem t_ifF {c : E} {a b r : Ss} {σ : Sl} {g g1 : G} (hc : evC P call c σ g = .ok false g1) (ha : TrS (evSs P call b σ g1) (fun σ g => TrS (evSs P call r σ g) N Q) Q) : TrS (evSs P call (.cons (.ifs c a b) r) σ g) N Q := by
  refine t_seq ?_
  rw [evS, hc, R.bind_ok, if_neg (by decide)]; exact ha
/-- the same without an else -/
theorem t_ifN {c : E} {a r : Ss} {σ : Sl} {g g1 : G} (hc : evC P call c σ g = .ok false g1) (ha : TrS (evSs P call r σ g1) N Q) : TrS (evSs P call (.cons (.ifs c a .nil) r) σ g) N Q :=
  t_ifF hc (t_nil ha)
theorem t_if {c : E} {a b r : Ss} {σ : Sl} {g g1 : G} {t : Bool} (hc : evC P call c σ g = .ok t g1) (ha : t = true → TrS (evSs P call a σ g1) (fun σ g => TrS (evSs P call r σ g) N Q) Q) (hb : t = false → TrS (evSs P call b σ g1) (fun σ g => TrS (evSs P call r σ g) N Q) Q) : TrS (evSs P call (.cons (.ifs c a b) r) σ g) N Q := by
  cases t with
  | true => exact t_ifT hc (ha rfl)
  | false => exact t_ifF hc (hb rfl)
theorem t_ret {e : E} {r : Ss} {σ : Sl} {g g1 : G} {v w : AV} (he : evE P call e σ g = .ok v g1) (hb : v.back = some w) (h : Q w g1) : TrS (evSs P call (.cons (.ret e) r) σ g) N Q := by
  rw [evSs, evS, he, R.bind_ok, hb, Option.map_some, R.opt_some, R.bind_ok]; exact .q h
theorem t_retT {i : Nat} {r : Ss} {σ : Sl} {g : G} {xs : List AV} (hx : σ[i]? = some (some (.own xs))) (h : Q (.own xs) g) : TrS (evSs P call (.cons (.retT i) r) σ g) N Q := by
  rw [evSs, evS, hx]; exact .q h
/-- a for loop: I of the turns done -/
theorem forL_tr {α : Type} {f : α → Sl → G → R (Option AV × Sl)} (I : Nat → Sl → G → Prop) : ∀ (l : List α) (i : Nat) (σ : Sl) (g : G), I i σ g →
    (∀ j x, l[j]? = some x → ∀ σ g, I (i + j) σ g → TrS (f x σ g) (I (i + j + 1)) Q) → TrS (forL f l σ g) (I (i + l.length)) Q
  | [], i, σ, g, h, _ => .n h
  | x :: l, i, σ, g, h, H => by
    rw [forL]
    rcases (H 0 x rfl σ g h).get with ⟨σ1, g1, e, h1⟩ | ⟨v, σ1, g1, e, h1⟩
    · rw [e, R.bind_ok]
      have := forL_tr I l (i + 1) σ1 g1 h1 (by
        intro j y hy σ g hI
        have := H (j + 1) y (by simpa using hy) σ g (by rw [show i + (j + 1) = i + 1 + j by omega]; exact hI)
        rw [show i + (j + 1) + 1 = i + 1 + j + 1 by omega] at this
        exact this)
      rw [List.length_cons, show i + (l.length + 1) = i + 1 + l.length by omega]
      exact this
    · rw [e, R.bind_ok]; exact .q h1
theorem t_for {t : Tg} {it : It} {b r : Ss} {σ : Sl} {g g1 : G} {xs : List AV} (I : Nat → Sl → G → Prop) (hi : evIt P call true it σ g = .ok xs g1) (h : I 0 σ g1)
    (H : ∀ i x, xs[i]? = some x → ∀ σ g, I i σ g → ∃ σ1, tgA t x σ = some σ1 ∧ TrS (evSs P call b σ1 g) (I (i + 1)) Q) (K : ∀ σ g, I xs.length σ g → TrS (evSs P call r σ g) N Q) : TrS (evSs P call (.cons (.fors t it b) r) σ g) N Q := by
  refine t_seq ?_
  rw [evS, hi, R.bind_ok]
  have := forL_tr (f := fun x σ1 g2 => (R.opt (tgA t x σ1) g2).bind fun σ2 g3 => evSs P call b σ2 g3) (Q := Q) I xs 0 σ g1 h (by
    intro j x hx σ g hI
    rw [Nat.zero_add] at hI ⊢
    obtain ⟨σ1, h1, h2⟩ := H j x hx σ g hI
    simp only [h1, R.opt_some, R.bind_ok]; exact h2)
  rw [Nat.zero_add] at this
  exact this.mono K fun _ _ h => h
/-- over a range's images -/
theorem t_forN {t : Tg} {it : It} {b r : Ss} {σ : Sl} {g g1 : G} {n : Nat} {k : Nat → AV} (I : Nat → Sl → G → Prop) (hi : evIt P call true it σ g = .ok ((List.range n).map k) g1) (h : I 0 σ g1)
    (H : ∀ i, i < n → ∀ σ g, I i σ g → ∃ σ1, tgA t (k i) σ = some σ1 ∧ TrS (evSs P call b σ1 g) (I (i + 1)) Q) (K : ∀ σ g, I n σ g → TrS (evSs P call r σ g) N Q) : TrS (evSs P call (.cons (.fors t it b) r) σ g) N Q := by
  refine t_for I hi h ?_ ?_
  · intro i x hx σ g hI
    rw [List.getElem?_map] at hx
    obtain ⟨j, hj, rfl⟩ := Option.map_eq_some_iff.mp hx
    obtain ⟨h3, h4⟩ := List.getElem?_eq_some_iff.mp hj
    rw [List.getElem_range] at h4
    subst h4
    rw [List.length_range] at h3
    exact H i h3 σ g hI
  · rw [List.length_map, List.length_range]; exact K
/-- over a list's images: I of the items done -/
theorem t_forP {α : Type} {t : Tg} {it : It} {b r : Ss} {σ : Sl} {g g1 : G} (l : List α) {k : α → AV} (I : List α → Sl → G → Prop) (hi : evIt P call true it σ g = .ok (l.map k) g1) (h : I [] σ g1)
    (H : ∀ a x c, l = a ++ x :: c → ∀ σ g, I a σ g → ∃ σ1, tgA t (k x) σ = some σ1 ∧ TrS (evSs P call b σ1 g) (I (a ++ [x])) Q) (K : ∀ σ g, I l σ g → TrS (evSs P call r σ g) N Q) : TrS (evSs P call (.cons (.fors t it b) r) σ g) N Q := by
  refine t_for (fun i σ g => I (l.take i) σ g) hi h ?_ ?_
  · intro i x hx σ g hI
    rw [List.getElem?_map] at hx
    obtain ⟨y, hy, rfl⟩ := Option.map_eq_some_iff.mp hx
    obtain ⟨h3, h4⟩ := List.getElem?_eq_some_iff.mp hy
    have e : l = l.take i ++ y :: l.drop (i + 1) := by
      rw [← h4, ← List.drop_eq_getElem_cons h3, List.take_append_drop]
    obtain ⟨σ1, h5, h6⟩ := H (l.take i) y (l.drop (i + 1)) e σ g hI
    refine ⟨σ1, h5, ?_⟩
    rw [List.take_succ, List.getElem?_eq_getElem h3, h4]
    exact h6
  · rw [List.length_map, List.take_length]; exact K
theorem whl_tr {c : Sl → G → R Bool} {b : Sl → G → R (Option AV × Sl)} {M : Sl → G → Prop} (I : Nat → Sl → G → Prop)
    (H : ∀ n σ g, I n σ g → ∃ t g1, c σ g = .ok t g1 ∧ (t = true → TrS (b σ g1) (fun σ g => ∃ m, m < n ∧ I m σ g) Q) ∧ (t = false → M σ g1)) :
    ∀ (f n : Nat) (σ : Sl) (g : G), I n σ g → n < f → TrS (whlL c b f σ g) M Q := by
  intro f
  induction f with
  | zero => intro n σ g _ h; omega
  | succ f ih =>
    intro n σ g hI hf
    obtain ⟨t, g1, e, h1, h2⟩ := H n σ g hI
    rw [whlL, e, R.bind_ok]
    cases t with
    | false => exact .n (h2 rfl)
    | true =>
      rw [if_pos rfl]
      rcases (h1 rfl).get with ⟨σ2, g2, e2, m, hm, hI2⟩ | ⟨v, σ2, g2, e2, hq⟩
      · rw [e2, R.bind_ok]; exact ih m σ2 g2 hI2 (by omega)
      · rw [e2, R.bind_ok]; exact .q hq
theorem t_whl {c : E} {b r : Ss} {σ : Sl} {g : G} {n : Nat} (I : Nat → Sl → G → Prop) (h : I n σ g) (hn : n < fuelW)
    (H : ∀ n σ g, I n σ g → ∃ t g1, evC P call c σ g = .ok t g1 ∧ (t = true → TrS (evSs P call b σ g1) (fun σ g => ∃ m, m < n ∧ I m σ g) Q) ∧ (t = false → TrS (evSs P call r σ g1) N Q)) : TrS (evSs P call (.cons (.whl c b) r) σ g) N Q := by
  have key := fun F hF => whl_tr (Q := Q) (c := evC P call c) (b := evSs P call b) (M := fun σ g => TrS (evSs P call r σ g) N Q) I H F n σ g h hF
  have key := key fuelW hn
  refine t_seq ?_
  rw [evS]
  exact key
/-- a def called -/
theorem t_def {f : Nat} {d : FnD} {vs : List AV} {g : G} {n : Nat} (hd : P.fns f = some d) (hl : vs.length = d.np) (hi : d.iso = false) (hb : TrS (evSs P (callN P n) d.body (startA d.ns vs) g) (fun _ g => Q .non g) Q) : Tr (callN P (n + 1) f vs g) Q := by
  rw [callN, hd]
  simp only [if_pos hl, hi]
  rcases hb.get with ⟨σ1, g1, e, h1⟩ | ⟨v, σ1, g1, e, h1⟩
  · rw [e, R.bind_ok]; exact .v h1
  · rw [e, R.bind_ok]; exact .v h1
theorem t_eq {f : Nat} {d : FnD} {vs : List AV} {g g1 : G} {n : Nat} {w : AV} (hd : P.fns f = some d) (hl : vs.length = d.np) (hi : d.iso = false) (hb : TrS (evSs P (callN P n) d.body (startA d.ns vs) g) (fun _ g => AV.non = w ∧ g = g1) fun v g => v = w ∧ g = g1) : callN P (n + 1) f vs g = .ok w g1 :=
  (t_def hd hl hi hb).eq
end
theorem fuel_big {n : Nat} (h : n < 2 ^ 4096) : n < fuelW := Nat.lt_of_lt_of_le h (Nat.pow_le_pow_right (by decide) (by decide))
end Ev
end

section
set_option Elab.async false
set_option linter.all false
set_option maxRecDepth 100000
/-! Ranges, lists as images of ranges. -/
namespace Ev
open PySem (Str Operator CmpOp UnaryOp)
theorem qat_rng {m k : Nat} (f : Nat → AV) (h : k < m) : atI ((List.range m).map f) (k : Int) = some (f k) := by
  have h1 : ixN m (k : Int) = some k := by
    unfold ixN
    rw [if_pos (by omega), if_pos (by omega)]
    simp
  unfold atI
  rw [List.length_map, List.length_range, h1, Option.bind_some, List.getElem?_map, List.getElem?_range h, Option.map_some]
theorem qat_get {xs : List AV} {k : Nat} {v : AV} (h : xs[k]? = some v) : atI xs (k : Int) = some v := by
  obtain ⟨h1, h2⟩ := List.getElem?_eq_some_iff.mp h
  have h3 : ixN xs.length (k : Int) = some k := by
    unfold ixN
    rw [if_pos (by omega), if_pos (by omega)]
    simp
  unfold atI
  rw [h3, Option.bind_some, h]
theorem qat_0 (x : AV) (xs : List AV) : atI (x :: xs) 0 = some x := qat_get (k := 0) rfl
theorem qat_1 (x y : AV) (xs : List AV) : atI (x :: y :: xs) 1 = some y := qat_get (k := 1) rfl
theorem qat_2 (x y z : AV) (xs : List AV) : atI (x :: y :: z :: xs) 2 = some z := qat_get (k := 2) rfl
theorem qat_3 (x y z w : AV) (xs : List AV) : atI (x :: y :: z :: w :: xs) 3 = some w := qat_get (k := 3) rfl
theorem qix_get {n k : Nat} (h : k < n) : ixN n (k : Int) = some k := by
  unfold ixN
  rw [if_pos (by omega), if_pos (by omega)]
  simp
theorem qrng1 {k : Nat} (h : k < 1000000000) : rngA [.int (k : Int)] = some ((List.range k).map fun i : Nat => AV.int (i : Int)) := by
  have h1 : ((-4611686018427387904 : Int) ≤ k && decide ((k : Int) < 4611686018427387904)) = true := by
    simp only [Bool.and_eq_true, decide_eq_true_eq]; omega
  simp only [rngA, h1, if_true, rngL_eq, Int.toNat_natCast, Int.zero_add]
theorem rngL_nat (a n : Nat) : rngL (a : Int) n = (List.range n).map fun i : Nat => AV.int ((a + i : Nat) : Int) := by
  rw [rngL_eq]
  apply List.map_congr_left
  intro i _
  push_cast
  rfl
theorem qrng2 {a b : Nat} (h : b < 1000000000) (ha : a < 1000000000) : rngA [.int (a : Int), .int (b : Int)] = some ((List.range (b - a)).map fun i : Nat => AV.int ((a + i : Nat) : Int)) := by
  have h1 : ((-4611686018427387904 : Int) ≤ a && (a : Int) < 4611686018427387904 && (-4611686018427387904 : Int) ≤ b && decide ((b : Int) < 4611686018427387904)) = true := by
    simp only [Bool.and_eq_true, decide_eq_true_eq]; omega
  have h2 : ((b : Int) - (a : Int)).toNat = b - a := by omega
  simp only [rngA, h1, if_true, h2, rngL_nat]
theorem qmk {vs : List AV} {g : G} (h : vs.length ≤ Ev.sizeLine) : mkL false vs g = .ok (.own vs) g := by
  unfold mkL
  rw [if_pos h]
theorem qall_map {α : Type} (g : G) (f : α → Bool) (l : List α) : bfA g .all [.own (l.map fun x => AV.bl (f x))] = some (.bl (l.all f)) := by
  simp only [bfA, seqL, Option.bind_some, boolsOf_map, Option.map_some, List.all_map]
  rfl
theorem qany_map {α : Type} (g : G) (f : α → Bool) (l : List α) : bfA g .any [.own (l.map fun x => AV.bl (f x))] = some (.bl (l.any f)) := by
  simp only [bfA, seqL, Option.bind_some, boolsOf_map, Option.map_some, List.any_map]
  rfl
theorem qsum_map {α : Type} (g : G) (f : α → Int) (l : List α) : bfA g .sum [.own (l.map fun x => AV.int (f x))] = some (.int (l.map f).sum) := by
  simp only [bfA, seqA, seqL, Option.bind_some, intsOf_map, Option.map_some]
theorem qsum_mapL {α : Type} (g : G) (f : α → Int) (l : List α) : bfA g .sum [.lst (l.map fun x => AV.int (f x))] = some (.int (l.map f).sum) := by
  simp only [bfA, seqA, seqL, Option.bind_some, intsOf_map, Option.map_some]
theorem qsum_mapT {α : Type} (g : G) (f : α → Int) (l : List α) : bfA g .sum [.tup (l.map fun x => AV.int (f x))] = some (.int (l.map f).sum) := by
  simp only [bfA, seqA, seqL, Option.bind_some, intsOf_map, Option.map_some]
theorem qall_tt {α : Type} (l : List α) : l.all (fun _ => true) = true := by simp
theorem le_sz {n : Nat} (h : n ≤ 1000000) : n ≤ Ev.sizeLine := Nat.le_trans h (by decide)
theorem sz_0 : (0 : Nat) ≤ Ev.sizeLine := by decide
theorem sz_1 : (1 : Nat) ≤ Ev.sizeLine := by decide
theorem sz_2 : (2 : Nat) ≤ Ev.sizeLine := by decide
theorem sz_3 : (3 : Nat) ≤ Ev.sizeLine := by decide
theorem sz_4 : (4 : Nat) ≤ Ev.sizeLine := by decide
theorem sz_5 : (5 : Nat) ≤ Ev.sizeLine := by decide
theorem sz_6 : (6 : Nat) ≤ Ev.sizeLine := by decide
theorem sz_7 : (7 : Nat) ≤ Ev.sizeLine := by decide
theorem sz_8 : (8 : Nat) ≤ Ev.sizeLine := by decide
theorem sz_9 : (9 : Nat) ≤ Ev.sizeLine := by decide
theorem sz_10 : (10 : Nat) ≤ Ev.sizeLine := by decide
theorem sz_11 : (11 : Nat) ≤ Ev.sizeLine := by decide
theorem sz_12 : (12 : Nat) ≤ Ev.sizeLine := by decide
theorem mulOk_l {i j : Int} (h : -18446744073709551616 < i) (h' : i < 18446744073709551616) : mulOk i j = true := by
  simp [mulOk, smallI, h, h']
theorem mulOk_r {i j : Int} (h : -18446744073709551616 < j) (h' : j < 18446744073709551616) : mulOk i j = true := by
  simp [mulOk, smallI, h, h']
theorem zip_rng (f h : Nat → AV) (m : Nat) : zipL ((List.range m).map f) ((List.range m).map h) = (List.range m).map fun i => AV.tup [f i, h i] := by
  rw [zipL_eq, List.zip_map', List.map_map]; rfl
theorem enum_rng (f : Nat → AV) (m : Nat) : enumL 0 ((List.range m).map f) = (List.range m).map fun i : Nat => AV.tup [.int (i : Int), f i] := by
  have h := enumL_eq 0 ((List.range m).map f)
  rw [show ((0 : Nat) : Int) = 0 from rfl] at h
  rw [h]
  apply List.ext_getElem?
  intro i
  simp only [List.getElem?_map, List.getElem?_zipIdx]
  cases h : (List.range m)[i]? with
  | none => rfl
  | some v =>
    have h1 := List.getElem?_eq_some_iff.mp h
    obtain ⟨h2, h3⟩ := h1
    rw [List.getElem_range] at h3
    subst h3
    simp
theorem rng_snoc (f : Nat → AV) (t : Nat) : (List.range t).map f ++ [f t] = (List.range (t + 1)).map f := by
  rw [List.range_succ, List.map_append]; rfl
theorem keep_map {α : Type} {f : α → AV} {h : α → AV} : ∀ {l : List α}, (∀ x ∈ l, (f x).keep = some (h x)) → (l.map f).mapM AV.keep = some (l.map h)
  | [], _ => rfl
  | x :: l, H => by
    rw [List.map_cons, List.mapM_cons, H x (List.mem_cons_self ..), keep_map fun y hy => H y (List.mem_cons_of_mem _ hy)]
    rfl
end Ev
end

section
set_option Elab.async false
set_option linter.all false
set_option maxRecDepth 100000
/-! Comprehensions that change the store; lists given by properties; data. -/
namespace Ev
open PySem (Str Operator CmpOp UnaryOp)
/-- items that are images -/
theorem img_of {α : Type} {f : α → AV} {Q : α → Prop} : ∀ {vs : List AV}, (∀ v ∈ vs, ∃ a, v = f a ∧ Q a) → ∃ l : List α, vs = l.map f ∧ ∀ a ∈ l, Q a
  | [], _ => ⟨[], rfl, by simp⟩
  | v :: vs, H => by
    obtain ⟨a, rfl, ha⟩ := H v (List.mem_cons_self ..)
    obtain ⟨l, rfl, hl⟩ := img_of fun w hw => H w (List.mem_cons_of_mem _ hw)
    refine ⟨a :: l, rfl, ?_⟩
    intro b hb
    rcases List.mem_cons.mp hb with rfl | hb
    · exact ha
    · exact hl b hb
/-- items drawn one by one -/
theorem compL_draw {α β : Type} {f : β → G → R (List AV)} (k : α → AV) (I : G → Prop) (Q : α → Prop) (xs : List β) (g : G) (h0 : I g) (H : ∀ x ∈ xs, ∀ g, I g → ∃ a g', f x g = .ok [k a] g' ∧ Q a ∧ I g') :
    ∃ (l : List α) (g' : G), compL f xs g = .ok (l.map k) g' ∧ l.length = xs.length ∧ (∀ a ∈ l, Q a) ∧ I g' := by
  obtain ⟨vs, g', h1, h2, h3, h4⟩ := compL_st (f := f) I (fun v => ∃ a, v = k a ∧ Q a) xs g h0 (by
    intro x hx g hI
    obtain ⟨a, g', h1, h2, h3⟩ := H x hx g hI
    exact ⟨k a, g', h1, ⟨a, rfl, h2⟩, h3⟩)
  obtain ⟨l, rfl, hl⟩ := img_of h3
  rw [List.length_map] at h2
  exact ⟨l, g', h1, h2, hl, h4⟩
theorem map_rng {α β : Type} (f : α → β) (d : α) (l : List α) : l.map f = (List.range l.length).map fun i => f (l.getD i d) := by
  apply List.ext_getElem
  · rw [List.length_map, List.length_map, List.length_range]
  · intro i h1 h2
    rw [List.length_map] at h1
    simp only [List.getElem_map, List.getElem_range, List.getD_eq_getElem?_getD, List.getElem?_eq_getElem h1]
    rfl
/-- rows in the store, from L on -/
def RowsAt (L m : Nat) (D : Nat → Nat → Int) (g : G) : Prop := ∀ i, i < m → g[L + i]? = some (some (.lst ((List.range m).map fun j => AV.int (D i j))))
theorem set_rng (m k : Nat) (f : Nat → AV) (v : AV) : ((List.range m).map f).set k v = (List.range m).map fun j => if j = k then v else f j := by
  apply List.ext_getElem
  · simp
  · intro i h1 h2
    simp only [List.getElem_set, List.getElem_map, List.getElem_range]
    by_cases h : k = i
    · subst h; simp
    · rw [if_neg h, if_neg (Ne.symm h)]
def updD (D : Nat → Nat → Int) (a b : Nat) (x : Int) : Nat → Nat → Int := fun i j => if i = a ∧ j = b then x else D i j
theorem RowsAt.set {L m : Nat} {D : Nat → Nat → Int} {g : G} (h : RowsAt L m D g) (a b : Nat) (ha : a < m) (x : Int) : RowsAt L m (updD D a b x) (g.set (L + a) (some (.lst (((List.range m).map fun j => AV.int (D a j)).set b (.int x))))) := by
  intro i hi
  by_cases e : i = a
  · subst e
    have := (List.getElem?_eq_some_iff.mp (h i hi)).1
    rw [List.getElem?_set_self this, set_rng]
    have e2 : (List.range m).map (fun j => if j = b then AV.int x else AV.int (D i j)) = (List.range m).map fun j => AV.int (updD D i b x i j) := by
      apply List.map_congr_left
      intro j _
      unfold updD
      by_cases hj : j = b
      · rw [if_pos hj, if_pos ⟨rfl, hj⟩]
      · rw [if_neg hj, if_neg fun h => hj h.2]
    rw [e2]
  · rw [List.getElem?_set_ne (by omega), h i hi]
    have e2 : (List.range m).map (fun j => AV.int (D i j)) = (List.range m).map fun j => AV.int (updD D a b x i j) := by
      apply List.map_congr_left
      intro j _
      unfold updD
      rw [if_neg fun h => e h.1]
    rw [e2]
theorem RowsAt.idx {L m : Nat} {D : Nat → Nat → Int} {g : G} (h : RowsAt L m D g) {i j : Nat} (hi : i < m) (hj : j < m) : idxA g (.ref (L + i)) (.int (j : Int)) = some (.int (D i j)) := by
  simp only [idxA, seqA, seqL, h i hi]
  exact qat_rng _ hj
theorem RowsAt.tup {L m : Nat} {D : Nat → Nat → Int} {g : G} (h : RowsAt L m D g) {i : Nat} (hi : i < m) : bfA g .tuple [.ref (L + i)] = some (.tup ((List.range m).map fun j => AV.int (D i j))) := by
  simp only [bfA, seqA, seqL, h i hi, Option.map_some]
section
variable {P : Pg} {call : CallT} {N : Sl → G → Prop} {Q : AV → G → Prop}
theorem Tr.of {α : Type} {r : R α} {v : α} {g : G} {Q : α → G → Prop} (h : r = .ok v g) (q : Q v g) : Tr r Q := by rw [h]; exact .v q
theorem Tr.mono {α : Type} {r : R α} {Q Q' : α → G → Prop} (h : Tr r Q) (H : ∀ v g, Q v g → Q' v g) : Tr r Q' := by
  obtain ⟨v, g, rfl, q⟩ := h.get
  exact .v (H v g q)
theorem Tr.bind {α β : Type} {r : R α} {f : α → G → R β} {Q : β → G → Prop} (h : Tr r fun v g => Tr (f v g) Q) : Tr (r.bind f) Q := by
  obtain ⟨v, g, rfl, q⟩ := h.get
  exact q
theorem t_cut {s : S} {r : Ss} {σ : Sl} {g : G} (Z : Sl → G → Prop) (h : TrS (evSs P call (.cons s .nil) σ g) Z Q) (k : ∀ σ g, Z σ g → TrS (evSs P call r σ g) N Q) : TrS (evSs P call (.cons s r) σ g) N Q := by
  refine t_seq ?_
  have e : evSs P call (.cons s .nil) σ g = (evS P call s σ g) := by
    rw [evSs]
    cases he : evS P call s σ g with
    | ok x g1 =>
      obtain ⟨o, σ1⟩ := x
      cases o with
      | none => rw [R.bind_ok]; simp only [evSs]
      | some v => rw [R.bind_ok]
    | ex e g1 => rfl
    | no => rfl
  rw [e] at h
  exact h.mono k fun _ _ h => h
theorem t_parO {i j : Nat} {a b : E} {r : Ss} {σ : Sl} {g g1 g2 : G} {x x' y y' : AV} (ha : evE P call a σ g = .ok x g1) (hx : x.keep = some x') (hb : evE P call b σ g1 = .ok y g2) (hy : y.put true = some y') (hk : TrS (evSs P call r ((σ.set i (some x')).set j (some y')) g2) N Q) : TrS (evSs P call (.cons (.parO i j a b) r) σ g) N Q := by
  rw [evSs, evS, ha, R.bind_ok]
  simp only [hx, hb, R.bind_ok, hy]
  exact hk
/-- a value by a property -/
theorem t_asgX {t : Ta} {e : E} {r : Ss} {σ : Sl} {g : G} (h : Tr (evE P call e σ g) fun v g1 => ∃ σ1 g2, asgA P call t v σ g1 = .ok σ1 g2 ∧ TrS (evSs P call r σ1 g2) N Q) : TrS (evSs P call (.cons (.asg t e) r) σ g) N Q := by
  obtain ⟨v, g1, h1, σ1, g2, h2, h3⟩ := h.get
  exact t_asg h1 h2 h3
theorem t_retX {e : E} {r : Ss} {σ : Sl} {g : G} (h : Tr (evE P call e σ g) fun v g1 => ∃ w, v.back = some w ∧ Q w g1) : TrS (evSs P call (.cons (.ret e) r) σ g) N Q := by
  obtain ⟨v, g1, h1, w, h2, h3⟩ := h.get
  exact t_ret h1 h2 h3
theorem r_bf1 {b : Bf} {e : E} {σ : Sl} {g : G} (h : Tr (evE P call e σ g) fun v g1 => ∃ w, bfA g1 b [v] = some w ∧ Q w g1) : Tr (evE P call (.bf b (.cons false e .nil)) σ g) Q := by
  obtain ⟨v, g1, h1, w, h2, h3⟩ := h.get
  rw [evE, evEs, h1]
  simp only [R.bind_ok, evEs, h2, R.opt_some]
  exact .v h3
/-- a comprehension whose items are drawn -/
theorem r_draw {α β : Type} {t : Tg} {it : It} {e : E} {σ : Sl} {g g1 : G} {xs : List β} {kx : β → AV} (k : α → AV) (I : G → Prop) (Z : α → Prop) (hi : evIt P call false it σ g = .ok (xs.map kx) g1) (h0 : I g1) (hl : xs.length ≤ Ev.sizeLine)
    (H : ∀ x ∈ xs, ∀ g, I g → ∃ σ1, tgA t (kx x) (wipeA σ (tgI t)) = some σ1 ∧ Tr (evE P call e σ1 g) fun v g' => ∃ a, v.keep = some (k a) ∧ Z a ∧ I g')
    (K : ∀ (l : List α) (g' : G), l.length = xs.length → (∀ a ∈ l, Z a) → I g' → Q (.own (l.map k)) g') : Tr (evE P call (.comp false t it .nil e) σ g) Q := by
  obtain ⟨l, g', h1, h2, h3, h4⟩ := compL_draw k I Z xs g1 h0 (f := fun x g2 => (R.opt (tgA t (kx x) (wipeA σ (tgI t))) g2).bind fun σ1 g3 => (evCs P call .nil σ1 g3).nox.bind fun ok g4 => if ok then (evE P call e σ1 g4).nox.bind fun v g5 => R.opt (v.keep.map fun v => [v]) g5 else .ok [] g4) (by
    intro x hx g hI
    obtain ⟨σ1, e1, ht⟩ := H x hx g hI
    obtain ⟨v, g', e2, a, e3, e4, e5⟩ := ht.get
    refine ⟨a, g', ?_, e4, e5⟩
    simp only [e1, R.opt_some, R.bind_ok, evCs, R.nox_ok, if_true, e2, e3, Option.map_some])
  rw [evE, hi, R.bind_ok, compL_img, h1, R.bind_ok, qmk (by rw [List.length_map, h2]; exact hl)]
  exact .v (K l g' h2 h3 h4)
end
end Ev
end

section
set_option Elab.async false
set_option linter.all false
set_option maxRecDepth 100000
/-! repr of data: when it is told, and that it is data. -/
namespace Ev
open PySem (Str PyData)
open PySem PySem.Builtin PyProof.Rows
theorem toDs_map : ∀ xs : List AV, toDs xs = xs.map toD
  | [] => rfl
  | x :: xs => by rw [toDs, toDs_map xs]; rfl
theorem lsAll : ∀ {xs : List PyData}, (∀ x ∈ xs, x.leavesShort 1921 = true) → PyData.leavesShortAll 1921 xs = true
  | [], _ => rfl
  | x :: xs, h => by
    rw [PyData.leavesShortAll, h x (List.mem_cons_self ..), lsAll fun y hy => h y (List.mem_cons_of_mem _ hy)]; rfl
theorem shAll : ∀ {xs : List PyData}, (∀ x ∈ xs, x.showable = true) → PyData.showableAll xs = true
  | [], _ => rfl
  | x :: xs, h => by
    rw [PyData.showableAll, h x (List.mem_cons_self ..), shAll fun y hy => h y (List.mem_cons_of_mem _ hy)]; rfl
theorem bkAll {b : Nat} : ∀ {xs : List PyData}, (∀ x ∈ xs, x.bulk ≤ b) → PyData.bulkAll xs ≤ xs.length * (b + 1)
  | [], _ => by simp [PyData.bulkAll]
  | x :: xs, h => by
    have h1 := h x (List.mem_cons_self ..)
    have h2 := bkAll (b := b) fun y hy => h y (List.mem_cons_of_mem _ hy)
    rw [PyData.bulkAll, List.length_cons, Nat.add_mul, Nat.one_mul]
    omega
/-- all signs of a text are code points -/
def okT (t : Str) : Prop := ∀ c ∈ t.cps.toList, c < 0x110000
theorem okT_app {a b : Str} (h : okT a) (k : okT b) : okT (a ++ b) := by
  intro c hc
  rw [mem_cps_append] at hc
  rcases hc with hc | hc
  · exact h c hc
  · exact k c hc
theorem okT_lit (s : String) : okT (Str.ofString s) := by
  intro c hc
  have e : (Str.ofString s).cps.toList = s.toList.map Char.toNat := signs_ofString s
  rw [e] at hc
  obtain ⟨ch, _, rfl⟩ := List.mem_map.mp hc
  have h := ch.valid
  show ch.val.toNat < _
  rcases h with h | ⟨_, h⟩
  · have : ch.val.toNat < 55296 := h
    omega
  · exact h
theorem okT_join {ts : List Str} (h : ∀ t ∈ ts, okT t) (s : String) : okT (Str.join (Str.ofString s) ts) := by
  intro c hc
  rw [mem_join] at hc
  rcases hc with ⟨t, ht, hc⟩ | ⟨_, hc⟩
  · exact h t ht c hc
  · exact okT_lit s c hc
theorem char_lt (ch : Char) : ch.toNat < 0x110000 := by
  rcases ch.valid with h | ⟨_, h⟩
  · have : ch.val.toNat < 55296 := h
    show ch.val.toNat < _
    omega
  · exact h
theorem reprChar_ok {q c : Nat} (hc : c < 0x110000) : ∀ d ∈ PySem.Builtin.Str.reprChar q c, d < 0x110000 := by
  intro d hd
  unfold PySem.Builtin.Str.reprChar at hd
  have hex : ∀ w, d ∈ (let d := (Nat.toDigits 16 c).map Char.toNat; List.replicate (w - d.length) 48 ++ d) → d < 0x110000 := by
    intro w h
    rcases List.mem_append.mp h with h | h
    · have := List.eq_of_mem_replicate h
      omega
    · obtain ⟨ch, _, rfl⟩ := List.mem_map.mp h
      exact char_lt ch
  simp only [] at hd
  split at hd
  · simp only [List.mem_cons, List.not_mem_nil, or_false] at hd; omega
  split at hd
  · simp only [List.mem_cons, List.not_mem_nil, or_false] at hd; omega
  split at hd
  · simp only [List.mem_cons, List.not_mem_nil, or_false] at hd; omega
  split at hd
  · simp only [List.mem_cons, List.not_mem_nil, or_false] at hd; omega
  split at hd
  · simp only [List.mem_cons, List.not_mem_nil, or_false] at hd; omega
  split at hd
  · rcases List.mem_append.mp hd with hd | hd
    · simp only [List.mem_cons, List.not_mem_nil, or_false] at hd; omega
    · exact hex _ hd
  split at hd
  · rcases List.mem_append.mp hd with hd | hd
    · simp only [List.mem_cons, List.not_mem_nil, or_false] at hd; omega
    · exact hex _ hd
  · rcases List.mem_append.mp hd with hd | hd
    · simp only [List.mem_cons, List.not_mem_nil, or_false] at hd; omega
    · exact hex _ hd
theorem okT_repr {x : Str} (h : okT x) : okT (reprText x) := by
  have hq : reprQuote x < 0x110000 := by unfold reprQuote; split <;> decide
  have key : ∀ (l : List Nat) (acc : Array Nat), (∀ c ∈ l, c < 0x110000) → (∀ c ∈ acc.toList, c < 0x110000) → ∀ c ∈ (l.foldl (fun out c => out ++ (PySem.Builtin.Str.reprChar (reprQuote x) c).toArray) acc).toList, c < 0x110000 := by
    intro l
    induction l with
    | nil => intro acc _ h; exact h
    | cons c l ih =>
      intro acc hl ha
      rw [List.foldl_cons]
      refine ih _ (fun d hd => hl d (List.mem_cons_of_mem _ hd)) fun d hd => ?_
      rw [Array.toList_append] at hd
      rcases List.mem_append.mp hd with hd | hd
      · exact ha d hd
      · exact reprChar_ok (hl c (List.mem_cons_self ..)) d (by simpa using hd)
  intro c hc
  unfold reprText at hc
  simp only [Array.toList_push, List.mem_append, List.mem_cons, List.not_mem_nil, or_false] at hc
  rcases hc with hc | rfl
  · rw [← Array.foldl_toList] at hc
    exact key x.cps.toList #[reprQuote x] h (by intro c hc; simp at hc; omega) c hc
  · exact hq

/-- data whose text can be told -/
structure Shw (d b : Nat) (x : AV) : Prop where
  dt : dat d x = true
  sh : (toD x).showable = true
  ls : (toD x).leavesShort 1921 = true
  bk : (toD x).bulk ≤ b
  ok : okT (toD x).shown
theorem dat_mono : ∀ {d e : Nat} {x : AV}, dat d x = true → d ≤ e → dat e x = true
  | d, e, .non, _, _ => by cases e <;> rfl
  | d, e, .bl b, _, _ => by cases e <;> rfl
  | d, e, .int b, _, _ => by cases e <;> rfl
  | d, e, .str b, h, _ => by cases d <;> cases e <;> exact h
  | 0, e, .tup xs, h, _ => by cases h
  | 0, e, .lst xs, h, _ => by cases h
  | 0, e, .own xs, h, _ => by cases h
  | 0, e, .bor p xs, h, _ => by cases h
  | d + 1, 0, .tup xs, h, l => by omega
  | d + 1, 0, .lst xs, h, l => by omega
  | d + 1, 0, .own xs, h, l => by omega
  | d + 1, 0, .bor p xs, h, l => by omega
  | d + 1, e + 1, .tup xs, h, l => by
    have h : xs.all (dat d) = true := h
    show xs.all (dat e) = true
    rw [List.all_eq_true] at h ⊢
    exact fun x hx => dat_mono (h x hx) (by omega)
  | d + 1, e + 1, .lst xs, h, l => by
    have h : xs.all (dat d) = true := h
    show xs.all (dat e) = true
    rw [List.all_eq_true] at h ⊢
    exact fun x hx => dat_mono (h x hx) (by omega)
  | d + 1, e + 1, .own xs, h, l => by
    have h : xs.all (dat d) = true := h
    show xs.all (dat e) = true
    rw [List.all_eq_true] at h ⊢
    exact fun x hx => dat_mono (h x hx) (by omega)
  | d + 1, e + 1, .bor p xs, h, l => by
    have h : xs.all (dat d) = true := h
    show xs.all (dat e) = true
    rw [List.all_eq_true] at h ⊢
    exact fun x hx => dat_mono (h x hx) (by omega)
  | 0, _, .ins _ _ _, h, _ => by cases h
  | 0, _, .ref _, h, _ => by cases h
  | 0, _, .fn _, h, _ => by cases h
  | 0, _, .cls _, h, _ => by cases h
  | 0, _, .scr _, h, _ => by cases h
  | _ + 1, _, .ins _ _ _, h, _ => by cases h
  | _ + 1, _, .ref _, h, _ => by cases h
  | _ + 1, _, .fn _, h, _ => by cases h
  | _ + 1, _, .cls _, h, _ => by cases h
  | _ + 1, _, .scr _, h, _ => by cases h
theorem Shw.mono {d e b c : Nat} {x : AV} (h : Shw d b x) (l : d ≤ e) (k : b ≤ c) : Shw e c x := ⟨dat_mono h.dt l, h.sh, h.ls, Nat.le_trans h.bk k, h.ok⟩
theorem Shw.non : Shw 0 0 .non := ⟨rfl, rfl, rfl, Nat.le_refl _, by
  show okT (PyData.shown .none)
  rw [PyData.shown_none]; exact okT_lit _⟩
theorem Shw.bl (b : Bool) : Shw 0 0 (.bl b) := ⟨rfl, rfl, rfl, Nat.le_refl _, by
  show okT (PyData.shown (.bool b))
  rw [PyData.shown_bool]; cases b <;> exact okT_lit _⟩
theorem Shw.int {i : Int} (h : i.natAbs.log2 < 1920) : Shw 0 0 (.int i) := ⟨rfl, by
  show PyData.showable (.int i) = true
  rw [PyData.showable]; exact decide_eq_true h, by
  show PyData.leavesShort 1921 (.int i) = true
  rw [PyData.leavesShort]
  refine decide_eq_true ?_
  rw [PyData.shown_int]
  have := int_text_length_le (show 0 < 1920 by decide) h
  have e : (Str.ofString (toString i)).length = (toString i).length := by
    show (Str.ofString (toString i)).cps.size = _
    rw [← Array.length_toList, signs_ofString, List.length_map]; rfl
  rw [show ((toString i : String) : Str).length = (toString i).length from e]
  exact this, Nat.le_refl _, by
  show okT (PyData.shown (.int i))
  rw [PyData.shown_int]; exact okT_lit _⟩
theorem Shw.str {s : Str} (h : okT s) : Shw 0 s.length (.str s) := ⟨by
  show s.cps.all (· < 0x110000) = true
  rw [Array.all_eq_true']
  intro x hx
  exact decide_eq_true (h x (by simpa using hx)), rfl, by
  show PyData.leavesShort 1921 (.str s) = true
  rw [PyData.leavesShort, List.all_eq_true]
  intro c hc
  have := h c hc
  exact decide_eq_true (by omega), Nat.le_refl _, by
  show okT (PyData.shown (.str s))
  rw [PyData.shown]; exact okT_repr h⟩
theorem shownAll_map : ∀ xs : List PyData, PyData.shownAll xs = xs.map PyData.shown
  | [] => rfl
  | x :: xs => by rw [PyData.shownAll, shownAll_map xs]; rfl
theorem okT_tuple {ts : List Str} (h : ∀ t ∈ ts, okT t) : okT (tupleText ts) := by
  unfold tupleText
  refine okT_app (okT_app (okT_lit _) (okT_join h _)) ?_
  split <;> exact okT_lit _
theorem okT_list {ts : List Str} (h : ∀ t ∈ ts, okT t) : okT (listText ts) := by
  have key : ∀ (ts : List Str) (k : Nat) (acc : Str), okT acc → (∀ t ∈ ts, okT t) → okT (textFrom k acc ts) := by
    intro ts
    induction ts with
    | nil => intro k acc h _; exact h
    | cons t r ih =>
      intro k acc ha hr
      show okT (textFrom (k + 1) (acc ++ (if k > 0 then ", " else "" : String) ++ t) r)
      refine ih (k + 1) _ (okT_app (okT_app ha ?_) (hr t (List.mem_cons_self ..))) fun x hx => hr x (List.mem_cons_of_mem _ hx)
      split <;> exact okT_lit _
  exact okT_app (key ts 0 _ (okT_lit _) h) (okT_lit _)
theorem Shw.all {d b : Nat} {xs : List AV} (h : ∀ x ∈ xs, Shw d b x) : PyData.showableAll (toDs xs) = true ∧ PyData.leavesShortAll 1921 (toDs xs) = true ∧ PyData.bulkAll (toDs xs) ≤ xs.length * (b + 1) ∧ ∀ t ∈ PyData.shownAll (toDs xs), okT t := by
  rw [toDs_map]
  refine ⟨shAll ?_, lsAll ?_, ?_, ?_⟩
  · intro x hx; obtain ⟨y, hy, rfl⟩ := List.mem_map.mp hx; exact (h y hy).sh
  · intro x hx; obtain ⟨y, hy, rfl⟩ := List.mem_map.mp hx; exact (h y hy).ls
  · have := bkAll (b := b) (xs := xs.map toD) (by intro x hx; obtain ⟨y, hy, rfl⟩ := List.mem_map.mp hx; exact (h y hy).bk)
    rw [List.length_map] at this
    exact this
  · rw [shownAll_map]
    intro t ht
    obtain ⟨z, hz, rfl⟩ := List.mem_map.mp ht
    obtain ⟨y, hy, rfl⟩ := List.mem_map.mp hz
    exact (h y hy).ok
theorem Shw.tup {d b : Nat} {xs : List AV} (h : ∀ x ∈ xs, Shw d b x) : Shw (d + 1) (xs.length * (b + 1)) (.tup xs) := by
  obtain ⟨h1, h2, h3, h4⟩ := Shw.all h
  refine ⟨?_, h1, h2, h3, ?_⟩
  · show xs.all (dat d) = true
    rw [List.all_eq_true]; exact fun x hx => (h x hx).dt
  · show okT (PyData.shown (.tuple (toDs xs)))
    rw [PyData.shown]; exact okT_tuple h4
theorem Shw.lst {d b : Nat} {xs : List AV} (h : ∀ x ∈ xs, Shw d b x) : Shw (d + 1) (xs.length * (b + 1)) (.lst xs) := by
  obtain ⟨h1, h2, h3, h4⟩ := Shw.all h
  refine ⟨?_, h1, h2, h3, ?_⟩
  · show xs.all (dat d) = true
    rw [List.all_eq_true]; exact fun x hx => (h x hx).dt
  · show okT (PyData.shown (.list (toDs xs)))
    rw [PyData.shown]; exact okT_list h4
theorem Shw.own {d b : Nat} {xs : List AV} (h : ∀ x ∈ xs, Shw d b x) : Shw (d + 1) (xs.length * (b + 1)) (.own xs) := by
  obtain ⟨h1, h2, h3, h4⟩ := Shw.all h
  refine ⟨?_, h1, h2, h3, ?_⟩
  · show xs.all (dat d) = true
    rw [List.all_eq_true]; exact fun x hx => (h x hx).dt
  · show okT (PyData.shown (.list (toDs xs)))
    rw [PyData.shown]; exact okT_list h4
theorem Shw.bor {d b : Nat} {p : Bool} {xs : List AV} (h : ∀ x ∈ xs, Shw d b x) : Shw (d + 1) (xs.length * (b + 1)) (.bor p xs) := by
  obtain ⟨h1, h2, h3, h4⟩ := Shw.all h
  refine ⟨?_, h1, h2, h3, ?_⟩
  · show xs.all (dat d) = true
    rw [List.all_eq_true]; exact fun x hx => (h x hx).dt
  · show okT (PyData.shown (.list (toDs xs)))
    rw [PyData.shown]; exact okT_list h4
theorem Shw.len {d b : Nat} {x : AV} (h : Shw d b x) : (shwA x).length ≤ 1923 * b + 1921 := by
  have := PyData.shown_le_bulk 1921 (by decide) (toD x) h.ls
  have k : 1923 * (toD x).bulk ≤ 1923 * b := Nat.mul_le_mul_left _ h.bk
  show (toD x).shown.length ≤ _
  omega
theorem Shw.repr {d b : Nat} {x : AV} (h : Shw d b x) (hd : d ≤ 60) (hb : b ≤ 8000) (g : G) : bfA g .repr [x] = some (.str (shwA x)) := by
  have h1 := h.len
  have h2 : shwOk x = true := by
    unfold shwOk
    rw [dat_mono h.dt hd, h.sh]
    refine decide_eq_true ?_
    have : Ev.sizeLine = 16777216 := rfl
    omega
  simp only [bfA, h2, if_true]
theorem Shw.dstr {d b : Nat} {x : AV} (h : Shw d b x) : dat 60 (.str (shwA x)) = true := by
  show (shwA x).cps.all (· < 0x110000) = true
  rw [Array.all_eq_true']
  intro c hc
  exact decide_eq_true (h.ok c (by simpa [shwA] using hc))
/-- the same data have the same text -/
theorem Shw.eq {d b : Nat} {x : AV} (h : Shw d b x) : eqA (.str (shwA x)) (.str (shwA x)) = some true := by
  simp only [eqA, h.dstr, Bool.and_self, if_true, eqv, decide_true]
/-! ### slices of lists -/
theorem cutp (l : List AV) {t : Nat} (h : t ≤ l.length) : cut l none (some (t : Int)) = l.take t := by
  unfold cut
  have h1 : sIx l.length 0 none = 0 := rfl
  have h2 : sIx l.length l.length (some (t : Int)) = t := by
    simp only [sIx]
    rw [if_neg (by omega), Int.toNat_natCast]; omega
  rw [h1, h2]; rfl
theorem cuts (l : List AV) {t : Nat} (h : t ≤ l.length) : cut l (some (t : Int)) none = l.drop t := by
  unfold cut
  have h1 : sIx l.length 0 (some (t : Int)) = t := by
    simp only [sIx]
    rw [if_neg (by omega), Int.toNat_natCast]; omega
  have h2 : sIx l.length l.length none = l.length := rfl
  rw [h1, h2]
  exact List.take_of_length_le (by rw [List.length_drop]; omega)
theorem drop_rng (m t : Nat) (f : Nat → AV) : ((List.range m).map f).drop t = (List.range (m - t)).map fun i => f (t + i) := by
  apply List.ext_getElem?
  intro i
  rw [List.getElem?_drop, List.getElem?_map, List.getElem?_map]
  by_cases h : t + i < m
  · rw [List.getElem?_range h, List.getElem?_range (by omega)]; rfl
  · rw [List.getElem?_eq_none (by rw [List.length_range]; omega), List.getElem?_eq_none (by rw [List.length_range]; omega)]; rfl
theorem cuts_rng {m t : Nat} (h : t ≤ m) (f : Nat → AV) : cut ((List.range m).map f) (some (t : Int)) none = (List.range (m - t)).map fun i => f (t + i) := by
  rw [cuts _ (by rw [List.length_map, List.length_range]; exact h), drop_rng]
end Ev
end

section
set_option Elab.async false
set_option linter.all false
set_option maxRecDepth 100000
/-! An engine: expressions and statements step by step, by rules in the order of the run. -/
namespace Ev
open PySem (Str Operator CmpOp UnaryOp)
theorem arg_sol {v : AV} (h : v.solid = true) : v.arg = v := by cases v <;> first | rfl | cases h
theorem arg_nil : List.map AV.arg [] = [] := rfl
theorem arg_cons {v w : AV} {vs ws : List AV} (h : v.arg = w) (k : vs.map AV.arg = ws) : (v :: vs).map AV.arg = w :: ws := by rw [List.map_cons, h, k]
theorem kp_nil : List.mapM AV.keep [] = some [] := rfl
theorem kp_cons {v w : AV} {vs ws : List AV} (h : v.keep = some w) (k : vs.mapM AV.keep = some ws) : (v :: vs).mapM AV.keep = some (w :: ws) := by
  rw [List.mapM_cons, h, k]; rfl
theorem app_nil {α : Type} {ys : List α} : [] ++ ys = ys := rfl
theorem app_cons {α : Type} {x : α} {xs ys zs : List α} (h : xs ++ ys = zs) : (x :: xs) ++ ys = x :: zs := by rw [List.cons_append, h]
theorem st_0 {α : Type} {a x : α} {l : List α} : (a :: l).set 0 x = x :: l := rfl
theorem st_s {α : Type} {a x : α} {l m : List α} {n : Nat} (h : l.set n x = m) : (a :: l).set (n + 1) x = a :: m := by rw [List.set_cons_succ, h]
theorem tg_v {i : Nat} {k : Bool} {v w : AV} {σ σ1 : Sl} (h : v.put k = some w) (e : σ.set i (some w) = σ1) : tgA (.v i k) v σ = some σ1 := by
  rw [tgA, h, Option.map_some, e]
theorem tg_t {ts : List Tg} {vs : List AV} {σ σ1 : Sl} (h : tgA.tgAs ts vs σ = some σ1) : tgA (.tup ts) (.tup vs) σ = some σ1 := by rw [tgA, h]
theorem tgs_n {σ : Sl} : tgA.tgAs [] [] σ = some σ := rfl
theorem tgs_c {t : Tg} {ts : List Tg} {v : AV} {vs : List AV} {σ σ1 σ2 : Sl} (h : tgA t v σ = some σ1) (k : tgA.tgAs ts vs σ1 = some σ2) : tgA.tgAs (t :: ts) (v :: vs) σ = some σ2 := by
  rw [tgA.tgAs, h, Option.bind_some, k]
theorem wp_n {σ : Sl} : wipeA σ [] = σ := rfl
theorem wp_c {σ σ1 σ2 : Sl} {v : Nat} {vs : List Nat} (h : wipeA σ vs = σ1) (k : σ1.set v none = σ2) : wipeA σ (v :: vs) = σ2 := by rw [wipeA, h, k]
section
variable {P : Pg} {call : CallT} {σ : Sl} {g : G} {K : AV → G → Prop} {N : Sl → G → Prop} {Q : AV → G → Prop}
theorem w_tt {A B : Prop} (h : A) : (true = true → A) ∧ (true = false → B) := ⟨fun _ => h, fun h => Bool.noConfusion h⟩
theorem w_ff {A B : Prop} (h : B) : (false = true → A) ∧ (false = false → B) := ⟨fun h => Bool.noConfusion h, fun _ => h⟩
theorem w_dt {p A B : Prop} [Decidable p] (hp : p) (h : A) : (decide p = true → A) ∧ (decide p = false → B) := ⟨fun _ => h, fun e => absurd hp (of_decide_eq_false e)⟩
theorem w_df {p A B : Prop} [Decidable p] (hp : ¬ p) (h : B) : (decide p = true → A) ∧ (decide p = false → B) := ⟨fun e => absurd (of_decide_eq_true e) hp, fun _ => h⟩
theorem w_dc {p A B : Prop} [Decidable p] (ha : p → A) (hb : ¬ p → B) : (decide p = true → A) ∧ (decide p = false → B) := ⟨fun e => ha (of_decide_eq_true e), fun e => hb (of_decide_eq_false e)⟩
theorem w_ndt {p A B : Prop} [Decidable p] (hp : p) (h : B) : ((!decide p) = true → A) ∧ ((!decide p) = false → B) := by
  rw [decide_eq_true hp]; exact w_ff h
theorem w_ndf {p A B : Prop} [Decidable p] (hp : ¬ p) (h : A) : ((!decide p) = true → A) ∧ ((!decide p) = false → B) := by
  rw [decide_eq_false hp]; exact w_tt h
theorem w_btt {b : Bool} {A B : Prop} (hb : b = true) (h : A) : (b = true → A) ∧ (b = false → B) := by subst hb; exact w_tt h
theorem w_bff {b : Bool} {A B : Prop} (hb : b = false) (h : B) : (b = true → A) ∧ (b = false → B) := by subst hb; exact w_ff h
theorem w_nbt {b : Bool} {A B : Prop} (hb : b = true) (h : B) : ((!b) = true → A) ∧ ((!b) = false → B) := by subst hb; exact w_ff h
theorem w_nbf {b : Bool} {A B : Prop} (hb : b = false) (h : A) : ((!b) = true → A) ∧ ((!b) = false → B) := by subst hb; exact w_tt h
/-! expressions -/
theorem w_lit {v : AV} (h : K v g) : Tr (evE P call (.lit v) σ g) K := by rw [evE]; exact .v h
theorem w_var {i : Nat} {v : AV} (h : σ[i]? = some (some v)) (hs : v.solid = true) (k : K v g) : Tr (evE P call (.var i) σ g) K := by
  rw [evE, h]; simp only []; rw [AV.look_solid hs]; exact .v k
theorem w_varO {i : Nat} {xs : List AV} (h : σ[i]? = some (some (.own xs))) (k : K (.bor false xs) g) : Tr (evE P call (.var i) σ g) K := by
  rw [evE, h]; exact .v k
theorem w_varB {i : Nat} {p : Bool} {xs : List AV} (h : σ[i]? = some (some (.bor p xs))) (k : K (.bor p xs) g) : Tr (evE P call (.var i) σ g) K := by
  rw [evE, h]; exact .v k
theorem w_esn {K : List AV → G → Prop} (h : K [] g) : Tr (evEs P call .nil σ g) K := by rw [evEs]; exact .v h
theorem w_esc {e : E} {es : Es} {K : List AV → G → Prop} (h : Tr (evE P call e σ g) fun v g1 => Tr (evEs P call es σ g1) fun vs g2 => K (v :: vs) g2) : Tr (evEs P call (.cons false e es) σ g) K := by
  obtain ⟨v, g1, h1, h2⟩ := h.get
  obtain ⟨vs, g2, h3, h4⟩ := h2.get
  rw [evEs, h1, R.bind_ok]; simp only [h3, R.bind_ok]; exact .v h4
theorem w_ess {e : E} {es : Es} {K : List AV → G → Prop} (h : Tr (evE P call e σ g) fun v g1 => ∃ xs, seqA g1 v = some xs ∧ Tr (evEs P call es σ g1) fun vs g2 => ∃ ws, xs ++ vs = ws ∧ K ws g2) : Tr (evEs P call (.cons true e es) σ g) K := by
  obtain ⟨v, g1, h1, xs, h0, h2⟩ := h.get
  obtain ⟨vs, g2, h3, ws, rfl, h4⟩ := h2.get
  rw [evEs, h1, R.bind_ok]; simp only [h0, h3, R.bind_ok]; exact .v h4
theorem w_tup {es : Es} (h : Tr (evEs P call es σ g) fun vs g1 => ∃ ws, vs.mapM AV.keep = some ws ∧ ws.length ≤ Ev.sizeLine ∧ K (.tup ws) g1) : Tr (evE P call (.tup es) σ g) K := by
  obtain ⟨vs, g1, h1, ws, h2, h3, h4⟩ := h.get
  rw [evE, h1, R.bind_ok, h2, Option.bind_some, if_pos h3]; exact .v h4
theorem w_lst {es : Es} (h : Tr (evEs P call es σ g) fun vs g1 => ∃ ws, vs.mapM AV.keep = some ws ∧ ws.length ≤ Ev.sizeLine ∧ K (.own ws) g1) : Tr (evE P call (.lst false es) σ g) K := by
  obtain ⟨vs, g1, h1, ws, h2, h3, h4⟩ := h.get
  rw [evE, h1, R.bind_ok]; simp only [h2, if_pos h3]; exact .v h4
theorem w_lstT {es : Es} (h : Tr (evEs P call es σ g) fun vs g1 => ∃ ws, vs.mapM AV.keep = some ws ∧ ws.length ≤ Ev.sizeLine ∧ K (.ref g1.length) (g1 ++ [some (.lst ws)])) : Tr (evE P call (.lst true es) σ g) K := by
  obtain ⟨vs, g1, h1, ws, h2, h3, h4⟩ := h.get
  rw [evE, h1, R.bind_ok]; simp only [h2, if_pos h3]; exact .v h4
theorem w_bin {op : Operator} {a b : E} (h : Tr (evE P call a σ g) fun x g1 => Tr (evE P call b σ g1) fun y g2 => ∃ v, binop g2 op x y = some v ∧ K v g2) : Tr (evE P call (.bin op a b) σ g) K := by
  obtain ⟨x, g1, h1, h2⟩ := h.get
  obtain ⟨y, g2, h3, v, h4, h5⟩ := h2.get
  rw [evE, h1, R.bind_ok, h3, R.bind_ok, h4]; exact .v h5
theorem w_neg {a : E} (h : Tr (evE P call a σ g) fun x g1 => ∃ v, negA x = some v ∧ K v g1) : Tr (evE P call (.neg a) σ g) K := by
  obtain ⟨x, g1, h1, v, h4, h5⟩ := h.get
  rw [evE, h1, R.bind_ok, h4]; exact .v h5
theorem w_cmp {op : CmpOp} {a b : E} (h : Tr (evE P call a σ g) fun x g1 => Tr (evE P call b σ g1) fun y g2 => ∃ v, cmpA g2 op x y = some v ∧ K (.bl v) g2) : Tr (evE P call (.cmp op a b) σ g) K := by
  obtain ⟨x, g1, h1, h2⟩ := h.get
  obtain ⟨y, g2, h3, v, h4, h5⟩ := h2.get
  rw [evE, h1, R.bind_ok, h3, R.bind_ok, h4]; exact .v h5
theorem w_chain {op op' : CmpOp} {a b c : E} (h : Tr (evE P call a σ g) fun x g1 => Tr (evE P call b σ g1) fun y g2 => ∃ t, cmpA g2 op x y = some t ∧ (t = true → Tr (evE P call c σ g2) fun z g3 => ∃ v, cmpA g3 op' y z = some v ∧ K (.bl v) g3) ∧ (t = false → K (.bl false) g2)) : Tr (evE P call (.chain op op' a b c) σ g) K := by
  obtain ⟨x, g1, h1, h2⟩ := h.get
  obtain ⟨y, g2, h3, t, h4, h5, h6⟩ := h2.get
  rw [evE, h1, R.bind_ok, h3, R.bind_ok, h4, R.opt_some, R.bind_ok]
  cases t with
  | true =>
    obtain ⟨z, g3, h7, v, h8, h9⟩ := (h5 rfl).get
    rw [if_pos rfl, h7, R.bind_ok, h8]; exact .v h9
  | false => rw [if_neg (by decide)]; exact .v (h6 rfl)
theorem w_and {a b : E} (h : Tr (evE P call a σ g) fun x g1 => ∃ t, truA g1 x = some t ∧ (t = true → Tr (evE P call b σ g1) K) ∧ (t = false → ∃ w, x.hand = w ∧ K w g1)) : Tr (evE P call (.and a b) σ g) K := by
  obtain ⟨x, g1, h1, t, h2, h3, h4⟩ := h.get
  rw [evE, h1, R.bind_ok, h2, R.opt_some, R.bind_ok]
  cases t with
  | true => rw [if_pos rfl]; exact h3 rfl
  | false =>
    obtain ⟨_, rfl, h5⟩ := h4 rfl
    rw [if_neg (by decide)]; exact .v h5
theorem w_or {a b : E} (h : Tr (evE P call a σ g) fun x g1 => ∃ t, truA g1 x = some t ∧ (t = true → ∃ w, x.hand = w ∧ K w g1) ∧ (t = false → Tr (evE P call b σ g1) K)) : Tr (evE P call (.or a b) σ g) K := by
  obtain ⟨x, g1, h1, t, h2, h3, h4⟩ := h.get
  rw [evE, h1, R.bind_ok, h2, R.opt_some, R.bind_ok]
  cases t with
  | true =>
    obtain ⟨_, rfl, h5⟩ := h3 rfl
    rw [if_pos rfl]; exact .v h5
  | false => rw [if_neg (by decide)]; exact h4 rfl
theorem w_not {a : E} (h : Tr (evE P call a σ g) fun x g1 => ∃ t, truA g1 x = some t ∧ ∃ u, (!t) = u ∧ K (.bl u) g1) : Tr (evE P call (.not a) σ g) K := by
  obtain ⟨x, g1, h1, t, h2, _, rfl, h3⟩ := h.get
  rw [evE, h1, R.bind_ok, h2, Option.map_some]; exact .v h3
theorem w_ite {c a b : E} (h : Tr (evE P call c σ g) fun x g1 => ∃ t, truA g1 x = some t ∧ (t = true → Tr (evE P call a σ g1) K) ∧ (t = false → Tr (evE P call b σ g1) K)) : Tr (evE P call (.ite c a b) σ g) K := by
  obtain ⟨x, g1, h1, t, h2, h3, h4⟩ := h.get
  rw [evE, h1, R.bind_ok, h2, R.opt_some, R.bind_ok]
  cases t with
  | true => rw [if_pos rfl]; exact h3 rfl
  | false => rw [if_neg (by decide)]; exact h4 rfl
theorem w_idx {a i : E} (h : Tr (evE P call a σ g) fun x g1 => Tr (evE P call i σ g1) fun y g2 => ∃ v, idxA g2 x y = some v ∧ K v g2) : Tr (evE P call (.idx a i) σ g) K := by
  obtain ⟨x, g1, h1, h2⟩ := h.get
  obtain ⟨y, g2, h3, v, h4, h5⟩ := h2.get
  rw [evE, h1, R.bind_ok, h3, R.bind_ok, h4]; exact .v h5
theorem w_eon {K : Option Int → G → Prop} (h : K none g) : Tr (evEo P call .none σ g) K := by rw [evEo]; exact .v h
theorem w_eos {e : E} {K : Option Int → G → Prop} (h : Tr (evE P call e σ g) fun v g1 => ∃ i, v = .int i ∧ K (some i) g1) : Tr (evEo P call (.some e) σ g) K := by
  obtain ⟨_, g1, h1, i, rfl, h2⟩ := h.get
  rw [evEo, h1, R.bind_ok]; exact .v h2
theorem w_slc {a : E} {lo hi : Eo} (h : Tr (evE P call a σ g) fun x g1 => Tr (evEo P call lo σ g1) fun l g2 => Tr (evEo P call hi σ g2) fun u g3 => ∃ v, slcA g3 x l u = some v ∧ K v g3) : Tr (evE P call (.slc a lo hi) σ g) K := by
  obtain ⟨x, g1, h1, h2⟩ := h.get
  obtain ⟨l, g2, h3, h4⟩ := h2.get
  obtain ⟨u, g3, h5, v, h6, h7⟩ := h4.get
  rw [evE, h1, R.bind_ok, h3, R.bind_ok, h5, R.bind_ok, h6]; exact .v h7
theorem w_lsc {e : E} (h : Tr (evE P call e σ g) fun v g1 => ∃ xs, seqA g1 v = some xs ∧ K (.ref g1.length) (g1 ++ [some (.lst xs)])) : Tr (evE P call (.lsc e) σ g) K := by
  obtain ⟨v, g1, h1, xs, h2, h3⟩ := h.get
  rw [evE, h1, R.bind_ok, h2]; exact .v h3
theorem w_lrg1 {a : E} (h : Tr (evE P call a σ g) fun x g1 => ∃ xs, rngA [x] = some xs ∧ xs.length ≤ Ev.sizeLine ∧ K (.own xs) g1) : Tr (evE P call (.lrg1 a) σ g) K := by
  obtain ⟨x, g1, h1, xs, h2, h3, h4⟩ := h.get
  rw [evE, h1, R.bind_ok, h2, Option.bind_some, if_pos h3]; exact .v h4
theorem w_lrg2 {a b : E} (h : Tr (evE P call a σ g) fun x g1 => Tr (evE P call b σ g1) fun y g2 => ∃ xs, rngA [x, y] = some xs ∧ xs.length ≤ Ev.sizeLine ∧ K (.own xs) g2) : Tr (evE P call (.lrg2 a b) σ g) K := by
  obtain ⟨x, g1, h1, h0⟩ := h.get
  obtain ⟨y, g2, h5, xs, h2, h3, h4⟩ := h0.get
  rw [evE, h1, R.bind_ok, h5, R.bind_ok, h2, Option.bind_some, if_pos h3]; exact .v h4
theorem w_rev {e : E} (h : Tr (evE P call e σ g) fun v g1 => ∃ w, revA g1 v = some w ∧ K w g1) : Tr (evE P call (.rev e) σ g) K := by
  obtain ⟨v, g1, h1, xs, h2, h3⟩ := h.get
  rw [evE, h1, R.bind_ok, h2]; exact .v h3
theorem w_lset {e : E} (h : Tr (evE P call e σ g) fun v g1 => ∃ w, lsetA v = some w ∧ K w g1) : Tr (evE P call (.lset e) σ g) K := by
  obtain ⟨v, g1, h1, xs, h2, h3⟩ := h.get
  rw [evE, h1, R.bind_ok, h2]; exact .v h3
theorem w_isTL {e : E} (h : Tr (evE P call e σ g) fun v g1 => ∃ w, isTLA v = some w ∧ K (.bl w) g1) : Tr (evE P call (.isTL e) σ g) K := by
  obtain ⟨v, g1, h1, xs, h2, h3⟩ := h.get
  rw [evE, h1, R.bind_ok, h2]; exact .v h3
theorem w_trg1 {a : E} (h : Tr (evE P call a σ g) fun x g1 => ∃ xs, rngA [x] = some xs ∧ xs.length ≤ Ev.sizeLine ∧ K (.tup xs) g1) : Tr (evE P call (.trg1 a) σ g) K := by
  obtain ⟨x, g1, h1, xs, h2, h3, h4⟩ := h.get
  rw [evE, h1, R.bind_ok, h2, Option.bind_some, if_pos h3]; exact .v h4
theorem w_rng2 {x : AV} {xs : List AV} {K : List AV → Prop} (h : rngA [x] = some xs) (hl : xs.length ≤ Ev.sizeLine) (k : K xs) : ∃ xs, rngA [x] = some xs ∧ xs.length ≤ Ev.sizeLine ∧ K xs := ⟨xs, h, hl, k⟩
theorem w_prev {g : G} {v w : AV} {K : AV → Prop} (h : revA g v = some w) (k : K w) : ∃ w, revA g v = some w ∧ K w := ⟨w, h, k⟩
theorem w_ptl {v : AV} {w : Bool} {K : Bool → Prop} (h : isTLA v = some w) (k : K w) : ∃ w, isTLA v = some w ∧ K w := ⟨w, h, k⟩
/-- a call: the arguments, then the def's run -/
theorem w_cal {f : Nat} {us : List AV} (h : Tr (call f us g) fun v g1 => ∃ w, v.back = some w ∧ K w g1) : Tr (callB call f us g) K := by
  obtain ⟨v, g1, h1, w, h2, h3⟩ := h.get
  unfold callB
  rw [h1, R.bind_ok, h2]; exact .v h3
theorem w_call {f : Nat} {es : Es} (h : Tr (evEs P call es σ g) fun vs g1 => ∃ us, vs.map AV.arg = us ∧ Tr (call f us g1) fun v g2 => ∃ w, v.back = some w ∧ K w g2) : Tr (evE P call (.call f es .nil [] []) σ g) K := by
  obtain ⟨vs, g1, h1, us, h2, h3⟩ := h.get
  rw [evE, h1, R.bind_ok, evEs, R.bind_ok, List.map_nil, List.append_nil, List.append_nil, h2, permA, R.opt_some, R.bind_ok]
  exact w_cal h3
theorem w_callK {f : Nat} {es ks : Es} {dfl : List AV} {pm : List Nat} (h : Tr (evEs P call es σ g) fun vs g1 => Tr (evEs P call ks σ g1) fun ws g2 => ∃ us vs' ws' us', vs.map AV.arg = vs' ∧ ws.map AV.arg = ws' ∧ vs' ++ ws' ++ dfl = us' ∧ permA pm us' = some us ∧ Tr (call f us g2) fun v g3 => ∃ w, v.back = some w ∧ K w g3) : Tr (evE P call (.call f es ks dfl pm) σ g) K := by
  obtain ⟨vs, g1, h1, h0⟩ := h.get
  obtain ⟨ws, g2, h4, us, vs', ws', us', rfl, rfl, rfl, h2, h3⟩ := h0.get
  rw [evE, h1, R.bind_ok, h4, R.bind_ok, h2, R.opt_some, R.bind_ok]
  exact w_cal h3
theorem w_callv {e : E} {es : Es} (h : Tr (evE P call e σ g) fun x g1 => ∃ f, x = .fn f ∧ (P.fns f).isSome = true ∧ Tr (evEs P call es σ g1) fun vs g2 => ∃ us, vs.map AV.arg = us ∧ Tr (call f us g2) fun v g3 => ∃ w, v.back = some w ∧ K w g3) : Tr (evE P call (.callv e es) σ g) K := by
  obtain ⟨_, g1, h1, f, rfl, h2, h3⟩ := h.get
  obtain ⟨vs, g2, h4, us, h5, h6⟩ := h3.get
  rw [evE, h1, R.bind_ok]; simp only [h2, if_true]; rw [h4, R.bind_ok, h5]
  exact w_cal h6
theorem w_inT {neg : Bool} {ks : List Str} {e : E} (h : Tr (evE P call e σ g) fun x g1 => ∃ v, inTA neg ks x = some v ∧ K v g1) : Tr (evE P call (.inT neg ks e) σ g) K := by
  obtain ⟨x, g1, h1, v, h2, h3⟩ := h.get
  rw [evE, h1, R.bind_ok, h2]; exact .v h3
theorem w_atT {kvs : List (Str × Int × Nat)} {e : E} (h : Tr (evE P call e σ g) fun x g1 => ∃ v, atTA kvs x = some v ∧ K v g1) : Tr (evE P call (.atT kvs e) σ g) K := by
  obtain ⟨x, g1, h1, v, h2, h3⟩ := h.get
  rw [evE, h1, R.bind_ok, h2]; exact .v h3
theorem w_bf {b : Bf} {es : Es} (h : Tr (evEs P call es σ g) fun vs g1 => ∃ v, bfA g1 b vs = some v ∧ K v g1) : Tr (evE P call (.bf b es) σ g) K := by
  obtain ⟨vs, g1, h1, v, h2, h3⟩ := h.get
  rw [evE, h1, R.bind_ok, h2]; exact .v h3
theorem w_isi {e : E} {t : TyT} (h : Tr (evE P call e σ g) fun x g1 => ∃ v, isinst P g1 t x = some v ∧ K (.bl v) g1) : Tr (evE P call (.isi e t) σ g) K := by
  obtain ⟨x, g1, h1, v, h2, h3⟩ := h.get
  rw [evE, h1, R.bind_ok, h2]; exact .v h3
theorem w_make {c : Nat} {fz : Bool} {es : Es} (h : Tr (evEs P call es σ g) fun vs g1 => ∃ us, vs.map AV.arg = us ∧ Tr (makeA P call c fz (AV.pures us) us g1) K) : Tr (evE P call (.make c fz es .nil [] []) σ g) K := by
  obtain ⟨vs, g1, h1, us, rfl, h3⟩ := h.get
  rw [evE, h1, R.bind_ok, evEs, R.bind_ok, List.map_nil, List.append_nil, List.append_nil, permA, R.opt_some, R.bind_ok]
  exact h3
theorem w_makeK {c : Nat} {fz : Bool} {es ks : Es} {dfl : List AV} {pm : List Nat} (h : Tr (evEs P call es σ g) fun vs g1 => Tr (evEs P call ks σ g1) fun ws g2 => ∃ us vs' ws' us', vs.map AV.arg = vs' ∧ ws.map AV.arg = ws' ∧ vs' ++ ws' ++ dfl = us' ∧ permA pm us' = some us ∧ Tr (makeA P call c fz (AV.pures (vs' ++ ws')) us g2) K) : Tr (evE P call (.make c fz es ks dfl pm) σ g) K := by
  obtain ⟨vs, g1, h1, h0⟩ := h.get
  obtain ⟨ws, g2, h4, us, vs', ws', us', rfl, rfl, rfl, h2, h3⟩ := h0.get
  rw [evE, h1, R.bind_ok, h4, R.bind_ok, h2, R.opt_some, R.bind_ok]
  exact h3
theorem w_attr {o : E} {a : Nat} (h : Tr (evE P call o σ g) fun x g1 => Tr (attrA P call x a g1) K) : Tr (evE P call (.attr o a) σ g) K := by
  obtain ⟨x, g1, h1, h2⟩ := h.get
  rw [evE, h1, R.bind_ok]; exact h2
theorem w_meth {o : E} {m : Nat} {es : Es} (h : Tr (evE P call o σ g) fun x g1 => ∃ f, mthA P x m g1 = some f ∧ Tr (evEs P call es σ g1) fun vs g2 => ∃ us, vs.map AV.arg = us ∧ Tr (call f (x :: us) g2) fun v g3 => ∃ w, v.back = some w ∧ K w g3) : Tr (evE P call (.meth o m es .nil [] []) σ g) K := by
  obtain ⟨x, g1, h1, f, h2, h3⟩ := h.get
  obtain ⟨vs, g2, h4, us, h5, h6⟩ := h3.get
  rw [evE, h1, R.bind_ok, h2, R.opt_some, R.bind_ok, h4, R.bind_ok, evEs, R.bind_ok, List.map_nil, List.append_nil, List.append_nil, h5, permA, R.opt_some, R.bind_ok]
  exact w_cal h6
theorem w_methK {o : E} {m : Nat} {es ks : Es} {dfl : List AV} {pm : List Nat} (h : Tr (evE P call o σ g) fun x g1 => ∃ f, mthA P x m g1 = some f ∧ Tr (evEs P call es σ g1) fun vs g2 => Tr (evEs P call ks σ g2) fun ws g3 => ∃ us vs' ws' us', vs.map AV.arg = vs' ∧ ws.map AV.arg = ws' ∧ vs' ++ ws' ++ dfl = us' ∧ permA pm us' = some us ∧ Tr (call f (x :: us) g3) fun v g4 => ∃ w, v.back = some w ∧ K w g4) : Tr (evE P call (.meth o m es ks dfl pm) σ g) K := by
  obtain ⟨x, g1, h1, f, h2, h3⟩ := h.get
  obtain ⟨vs, g2, h4, h0⟩ := h3.get
  obtain ⟨ws, g3, h7, us, vs', ws', us', rfl, rfl, rfl, h5, h6⟩ := h0.get
  rw [evE, h1, R.bind_ok, h2, R.opt_some, R.bind_ok, h4, R.bind_ok, h7, R.bind_ok, h5, R.opt_some, R.bind_ok]
  exact w_cal h6
/-! what is walked -/
theorem w_itv {st : Bool} {e : E} {K : List AV → G → Prop} (h : Tr (evE P call e σ g) fun v g1 => srcOk st v = true ∧ ∃ xs, seqA g1 v = some xs ∧ K xs g1) : Tr (evIt P call st (.val e) σ g) K := by
  obtain ⟨v, g1, h1, h2, xs, h3, h4⟩ := h.get
  rw [evIt, h1, R.bind_ok, if_pos h2, h3]; exact .v h4
theorem w_itr {st : Bool} {es : Es} {K : List AV → G → Prop} (h : Tr (evEs P call es σ g) fun vs g1 => ∃ xs, rngA vs = some xs ∧ K xs g1) : Tr (evIt P call st (.rng es) σ g) K := by
  obtain ⟨v, g1, h1, xs, h3, h4⟩ := h.get
  rw [evIt, h1, R.bind_ok, h3]; exact .v h4
theorem w_ite' {st : Bool} {e : E} {K : List AV → G → Prop} (h : Tr (evE P call e σ g) fun v g1 => srcOk st v = true ∧ ∃ xs, seqA g1 v = some xs ∧ K (enumL 0 xs) g1) : Tr (evIt P call st (.enum e) σ g) K := by
  obtain ⟨v, g1, h1, h2, xs, h3, h4⟩ := h.get
  rw [evIt, h1, R.bind_ok, if_pos h2, h3]; exact .v h4
theorem w_itz {st : Bool} {a b : E} {K : List AV → G → Prop} (h : Tr (evE P call a σ g) fun x g1 => Tr (evE P call b σ g1) fun y g2 => srcOk st x = true ∧ srcOk st y = true ∧ ∃ xs, seqA g2 x = some xs ∧ ∃ ys, seqA g2 y = some ys ∧ K (zipL xs ys) g2) : Tr (evIt P call st (.zip a b) σ g) K := by
  obtain ⟨x, g1, h1, h0⟩ := h.get
  obtain ⟨y, g2, h2, h3, h4, xs, h5, ys, h6, h7⟩ := h0.get
  rw [evIt, h1, R.bind_ok, h2, R.bind_ok, h3, h4, h5, h6]; exact .v h7
theorem w_itez {st : Bool} {a b : E} {K : List AV → G → Prop} (h : Tr (evE P call a σ g) fun x g1 => Tr (evE P call b σ g1) fun y g2 => srcOk st x = true ∧ srcOk st y = true ∧ ∃ xs, seqA g2 x = some xs ∧ ∃ ys, seqA g2 y = some ys ∧ K (enumL 0 (zipL xs ys)) g2) : Tr (evIt P call st (.ez a b) σ g) K := by
  obtain ⟨x, g1, h1, h0⟩ := h.get
  obtain ⟨y, g2, h2, h3, h4, xs, h5, ys, h6, h7⟩ := h0.get
  rw [evIt, h1, R.bind_ok, h2, R.bind_ok, h3, h4, h5, h6]; exact .v h7
/-- a comprehension that leaves the store alone, over images -/
theorem w_comp {α : Type} {t : Tg} {it : It} {e : E} {l : List α} {kx : α → AV} {g1 : G} (h : α → AV) (hi : evIt P call false it σ g = .ok (l.map kx) g1) (hl : l.length ≤ Ev.sizeLine)
    (H : ∀ x ∈ l, ∃ σ1, tgA t (kx x) (wipeA σ (tgI t)) = some σ1 ∧ Tr (evE P call e σ1 g1) fun v g' => g' = g1 ∧ v.keep = some (h x))
    (k : K (.own (l.map h)) g1) : Tr (evE P call (.comp false t it .nil e) σ g) K := by
  rw [evE, hi, R.bind_ok, compL_img, compL_map (h := h)]
  · rw [R.bind_ok, qmk (by rw [List.length_map]; exact hl)]; exact .v k
  · intro x hx
    obtain ⟨σ1, e1, ht⟩ := H x hx
    obtain ⟨v, g', e2, rfl, e3⟩ := ht.get
    simp only [e1, R.opt_some, R.bind_ok, evCs, R.nox_ok, if_true, e2, e3, Option.map_some]
theorem w_compF {α : Type} {t : Tg} {it : It} {c e : E} {l : List α} {kx : α → AV} {g1 : G} (p : α → Bool) (h : α → AV) (hi : evIt P call false it σ g = .ok (l.map kx) g1) (hl : l.length ≤ Ev.sizeLine)
    (H : ∀ x ∈ l, ∃ σ1, tgA t (kx x) (wipeA σ (tgI t)) = some σ1 ∧ (Tr (evE P call c σ1 g1) fun v g' => g' = g1 ∧ truA g1 v = some (p x)) ∧ (p x = true → Tr (evE P call e σ1 g1) fun v g' => g' = g1 ∧ v.keep = some (h x)))
    (k : K (.own ((l.filter p).map h)) g1) : Tr (evE P call (.comp false t it (.cons false c .nil) e) σ g) K := by
  rw [evE, hi, R.bind_ok, compL_img, compL_filter (h := h) (p := p)]
  · rw [R.bind_ok, qmk (by rw [List.length_map]; exact Nat.le_trans (List.length_filter_le ..) hl)]; exact .v k
  · intro x hx
    obtain ⟨σ1, e1, hc, ht⟩ := H x hx
    obtain ⟨v, g', e2, rfl, e3⟩ := hc.get
    cases hp : p x with
    | false =>
      rw [hp] at e3
      simp only [e1, R.opt_some, R.bind_ok, evCs, R.nox_ok, e2, e3, Bool.false_eq_true, if_false]
    | true =>
      rw [hp] at e3
      obtain ⟨w, g2, e4, rfl, e5⟩ := (ht hp).get
      simp only [e1, R.opt_some, R.bind_ok, evCs, R.nox_ok, e2, e3, if_true, e4, e5, Option.map_some]
theorem w_compT {α : Type} {t : Tg} {it : It} {e : E} (l : List α) {kx : α → AV} {g1 : G} (h : α → AV) (hi : Tr (evIt P call false it σ g) fun ys g2 => ys = l.map kx ∧ g2 = g1) (hl : l.length ≤ Ev.sizeLine)
    (H : ∀ x ∈ l, ∃ σ1, tgA t (kx x) (wipeA σ (tgI t)) = some σ1 ∧ Tr (evE P call e σ1 g1) fun v g' => g' = g1 ∧ v.keep = some (h x))
    (k : K (.own (l.map h)) g1) : Tr (evE P call (.comp false t it .nil e) σ g) K := by
  obtain ⟨_, _, h1, rfl, rfl⟩ := hi.get
  exact w_comp h h1 hl H k
theorem w_compFT {α : Type} {t : Tg} {it : It} {c e : E} (l : List α) {kx : α → AV} {g1 : G} (p : α → Bool) (h : α → AV) (hi : Tr (evIt P call false it σ g) fun ys g2 => ys = l.map kx ∧ g2 = g1) (hl : l.length ≤ Ev.sizeLine)
    (H : ∀ x ∈ l, ∃ σ1, tgA t (kx x) (wipeA σ (tgI t)) = some σ1 ∧ (Tr (evE P call c σ1 g1) fun v g' => g' = g1 ∧ truA g1 v = some (p x)) ∧ (p x = true → Tr (evE P call e σ1 g1) fun v g' => g' = g1 ∧ v.keep = some (h x)))
    (k : K (.own ((l.filter p).map h)) g1) : Tr (evE P call (.comp false t it (.cons false c .nil) e) σ g) K := by
  obtain ⟨_, _, h1, rfl, rfl⟩ := hi.get
  exact w_compF p h h1 hl H k
/-- two clauses, the store left alone -/
theorem w_comp2 {α β : Type} {t t' : Tg} {it it' : It} {e : E} (l : List α) {kx : α → AV} {g1 : G} (l2 : α → List β) (ky : α → β → AV) (h : α → β → AV) (hi : Tr (evIt P call false it σ g) fun ys g2 => ys = l.map kx ∧ g2 = g1) (hl : (l.flatMap fun x => (l2 x).map (h x)).length ≤ Ev.sizeLine)
    (H : ∀ x ∈ l, ∃ σ1, tgA t (kx x) (wipeA σ (tgI t ++ tgI t')) = some σ1 ∧ (Tr (evIt P call false it' σ1 g1) fun ys g2 => ys = (l2 x).map (ky x) ∧ g2 = g1) ∧ ∀ y ∈ l2 x, ∃ σ2, tgA t' (ky x y) (wipeA σ1 (tgI t')) = some σ2 ∧ Tr (evE P call e σ2 g1) fun v g' => g' = g1 ∧ v.keep = some (h x y))
    (k : K (.own (l.flatMap fun x => (l2 x).map (h x))) g1) : Tr (evE P call (.comp2 false t it .nil t' it' .nil e) σ g) K := by
  obtain ⟨_, _, h1, rfl, rfl⟩ := hi.get
  rw [evE, h1, R.bind_ok, compL_img, compL_flat (h := fun x => (l2 x).map (h x))]
  · rw [R.bind_ok, qmk hl]; exact .v k
  · intro x hx
    obtain ⟨σ1, e1, h2, h3⟩ := H x hx
    obtain ⟨_, _, h4, rfl, rfl⟩ := h2.get
    simp only [e1, R.opt_some, R.bind_ok, evCs, R.nox_ok, if_true, h4, compL_img]
    rw [compL_map (h := h x)]
    intro y hy
    obtain ⟨σ2, e2, h5⟩ := h3 y hy
    obtain ⟨v, g', e3, rfl, e4⟩ := h5.get
    simp only [e2, R.opt_some, R.bind_ok, evCs, R.nox_ok, if_true, e3, e4, Option.map_some]
/-- a comprehension whose items are drawn -/
theorem w_drawT {α β : Type} {t : Tg} {it : It} {e : E} {g1 : G} (xs : List β) {kx : β → AV} (k : α → AV) (I : G → Prop) (Z : α → Prop) (hi : Tr (evIt P call false it σ g) fun ys g2 => ys = xs.map kx ∧ g2 = g1) (h0 : I g1) (hl : xs.length ≤ Ev.sizeLine)
    (H : ∀ x ∈ xs, ∀ g, I g → ∃ σ1, tgA t (kx x) (wipeA σ (tgI t)) = some σ1 ∧ Tr (evE P call e σ1 g) fun v g' => ∃ a, v.keep = some (k a) ∧ Z a ∧ I g')
    (K1 : ∀ (l : List α) (g' : G), l.length = xs.length → (∀ a ∈ l, Z a) → I g' → K (.own (l.map k)) g') : Tr (evE P call (.comp false t it .nil e) σ g) K := by
  obtain ⟨_, _, h1, rfl, rfl⟩ := hi.get
  exact r_draw k I Z h1 h0 hl H K1
/-! statements -/
theorem s_asgV {i : Nat} {k : Bool} {e : E} {r : Ss} (h : ∀ K : AV → G → Prop, (∀ v g1 w σ1, v.put k = some w → σ.set i (some w) = σ1 → TrS (evSs P call r σ1 g1) N Q → K v g1) → Tr (evE P call e σ g) K) : TrS (evSs P call (.cons (.asg (.t (.v i k)) e) r) σ g) N Q := by
  have := h (fun v g1 => ∃ w σ1, v.put k = some w ∧ σ.set i (some w) = σ1 ∧ TrS (evSs P call r σ1 g1) N Q) fun v g1 w σ1 h1 h2 h3 => ⟨w, σ1, h1, h2, h3⟩
  obtain ⟨v, g1, h1, w, σ1, h2, rfl, h3⟩ := this.get
  refine t_asg h1 (σ1 := σ.set i (some w)) (g2 := g1) ?_ h3
  rw [asgA, tgA, h2]; rfl
theorem s_asgT {ts : List Tg} {e : E} {r : Ss} (h : ∀ K : AV → G → Prop, (∀ v g1 σ1, tgA (.tup ts) v σ = some σ1 → TrS (evSs P call r σ1 g1) N Q → K v g1) → Tr (evE P call e σ g) K) : TrS (evSs P call (.cons (.asg (.t (.tup ts)) e) r) σ g) N Q := by
  have := h (fun v g1 => ∃ σ1, tgA (.tup ts) v σ = some σ1 ∧ TrS (evSs P call r σ1 g1) N Q) fun v g1 σ1 h1 h2 => ⟨σ1, h1, h2⟩
  obtain ⟨v, g1, h1, σ1, h2, h3⟩ := this.get
  refine t_asg h1 (σ1 := σ1) (g2 := g1) ?_ h3
  rw [asgA, h2]; rfl
theorem s_expr {e : E} {r : Ss} (h : ∀ K : AV → G → Prop, (∀ v g1, TrS (evSs P call r σ g1) N Q → K v g1) → Tr (evE P call e σ g) K) : TrS (evSs P call (.cons (.expr e) r) σ g) N Q := by
  have := h (fun v g1 => TrS (evSs P call r σ g1) N Q) fun v g1 h1 => h1
  obtain ⟨v, g1, h1, h2⟩ := this.get
  exact t_expr h1 h2
theorem s_appO {i : Nat} {e : E} {r : Ss} {xs : List AV} (hx : σ[i]? = some (some (.own xs))) (h : ∀ K : AV → G → Prop, (∀ v g1 w ys σ1, v.keep = some w → xs.length < Ev.sizeLine → xs ++ [w] = ys → σ.set i (some (.own ys)) = σ1 → TrS (evSs P call r σ1 g1) N Q → K v g1) → Tr (evE P call e σ g) K) : TrS (evSs P call (.cons (.appO i e) r) σ g) N Q := by
  have := h (fun v g1 => ∃ w ys σ1, v.keep = some w ∧ xs.length < Ev.sizeLine ∧ xs ++ [w] = ys ∧ σ.set i (some (.own ys)) = σ1 ∧ TrS (evSs P call r σ1 g1) N Q) fun v g1 w ys σ1 h1 h2 h3 h4 h5 => ⟨w, ys, σ1, h1, h2, h3, h4, h5⟩
  obtain ⟨v, g1, h1, w, ys, σ1, h2, h3, rfl, rfl, h4⟩ := this.get
  exact t_appO hx h1 h2 h3 h4
theorem s_if {c : E} {a b r : Ss} (h : ∀ K : AV → G → Prop, (∀ v g1 t, truA g1 v = some t → ((t = true → TrS (evSs P call a σ g1) (fun σ g => TrS (evSs P call r σ g) N Q) Q) ∧ (t = false → TrS (evSs P call b σ g1) (fun σ g => TrS (evSs P call r σ g) N Q) Q)) → K v g1) → Tr (evE P call c σ g) K) : TrS (evSs P call (.cons (.ifs c a b) r) σ g) N Q := by
  have := h (fun v g1 => ∃ t, truA g1 v = some t ∧ ((t = true → TrS (evSs P call a σ g1) (fun σ g => TrS (evSs P call r σ g) N Q) Q) ∧ (t = false → TrS (evSs P call b σ g1) (fun σ g => TrS (evSs P call r σ g) N Q) Q))) fun v g1 t h1 h2 => ⟨t, h1, h2⟩
  obtain ⟨v, g1, h1, t, h2, h3, h4⟩ := this.get
  exact t_if (t := t) (g1 := g1) (by unfold evC; rw [h1, R.bind_ok, h2]; rfl) h3 h4
theorem s_ret {e : E} {r : Ss} (h : Tr (evE P call e σ g) fun v g1 => ∃ w, v.back = some w ∧ Q w g1) : TrS (evSs P call (.cons (.ret e) r) σ g) N Q := t_retX h
theorem s_par {is : List Nat} {es : Es} {r : Ss} (h : ∀ K : List AV → G → Prop, (∀ vs g1 σ1, parA is vs σ = some σ1 → TrS (evSs P call r σ1 g1) N Q → K vs g1) → Tr (evEs P call es σ g) K) : TrS (evSs P call (.cons (.par is es) r) σ g) N Q := by
  have := h (fun vs g1 => ∃ σ1, parA is vs σ = some σ1 ∧ TrS (evSs P call r σ1 g1) N Q) fun vs g1 σ1 h1 h2 => ⟨σ1, h1, h2⟩
  obtain ⟨vs, g1, h1, σ1, h2, h3⟩ := this.get
  exact t_par h1 h2 h3
theorem pr_n : parA [] [] σ = some σ := rfl
theorem pr_c {i : Nat} {is : List Nat} {v w : AV} {vs : List AV} {σ1 σ2 : Sl} (h : v.keep = some w) (e : σ.set i (some w) = σ1) (k : parA is vs σ1 = some σ2) : parA (i :: is) (v :: vs) σ = some σ2 := by
  rw [parA, h, Option.bind_some, e, k]
theorem s_psn {K : List AV → G → Prop} (h : K [] g) : Tr (evPs P call [] .nil σ g) K := by rw [qps_nil]; exact .v h
theorem s_psc {i : Nat} {k : Bool} {ts : List (Nat × Bool)} {e : E} {es : Es} {K : List AV → G → Prop} (h : Tr (evE P call e σ g) fun x g1 => ∃ y, x.put k = some y ∧ Tr (evPs P call ts es σ g1) fun ys g2 => K (y :: ys) g2) : Tr (evPs P call ((i, k) :: ts) (.cons false e es) σ g) K := by
  obtain ⟨x, g1, h1, y, h2, h3⟩ := h.get
  obtain ⟨ys, g2, h4, h5⟩ := h3.get
  rw [qps_cons, h1, R.bind_ok]; simp only [h2, h4, R.bind_ok]; exact .v h5
theorem s_parP {ts : List (Nat × Bool)} {es : Es} {r : Ss} (h : ∀ K : List AV → G → Prop, (∀ vs g1 σ1, setP ts vs σ = σ1 → TrS (evSs P call r σ1 g1) N Q → K vs g1) → Tr (evPs P call ts es σ g) K) : TrS (evSs P call (.cons (.parP ts es) r) σ g) N Q := by
  have := h (fun vs g1 => ∃ σ1, setP ts vs σ = σ1 ∧ TrS (evSs P call r σ1 g1) N Q) fun vs g1 σ1 h1 h2 => ⟨σ1, h1, h2⟩
  obtain ⟨vs, g1, h1, σ1, h2, h3⟩ := this.get
  exact t_parP h1 h2 h3
theorem sp_n : setP [] [] σ = σ := rfl
theorem sp_c {i : Nat} {k : Bool} {ts : List (Nat × Bool)} {v : AV} {vs : List AV} {σ1 σ2 : Sl} (e : σ.set i (some v) = σ1) (h : setP ts vs σ1 = σ2) : setP ((i, k) :: ts) (v :: vs) σ = σ2 := by
  rw [setP, e, h]
/-- a walk over images: I of the items done -/
theorem s_forP {α : Type} {t : Tg} {it : It} {b r : Ss} {g1 : G} (l : List α) {k : α → AV} (I : List α → Sl → G → Prop) (hi : Tr (evIt P call true it σ g) fun xs g2 => xs = l.map k ∧ g2 = g1) (h : I [] σ g1)
    (H : ∀ a x c, l = a ++ x :: c → ∀ σ g, I a σ g → ∃ σ1, tgA t (k x) σ = some σ1 ∧ TrS (evSs P call b σ1 g) (I (a ++ [x])) Q) (Kt : ∀ σ g, I l σ g → TrS (evSs P call r σ g) N Q) : TrS (evSs P call (.cons (.fors t it b) r) σ g) N Q := by
  obtain ⟨_, _, h1, rfl, rfl⟩ := hi.get
  exact t_forP l I h1 h H Kt
theorem s_forN {t : Tg} {it : It} {b r : Ss} {g1 : G} (n : Nat) {k : Nat → AV} (I : Nat → Sl → G → Prop) (hi : Tr (evIt P call true it σ g) fun xs g2 => xs = (List.range n).map k ∧ g2 = g1) (h : I 0 σ g1)
    (H : ∀ i, i < n → ∀ σ g, I i σ g → ∃ σ1, tgA t (k i) σ = some σ1 ∧ TrS (evSs P call b σ1 g) (I (i + 1)) Q) (Kt : ∀ σ g, I n σ g → TrS (evSs P call r σ g) N Q) : TrS (evSs P call (.cons (.fors t it b) r) σ g) N Q := by
  obtain ⟨_, _, h1, rfl, rfl⟩ := hi.get
  exact t_forN I h1 h H Kt
end
theorem w_keeps {o : Option (List AV)} {w : List AV} {K : List AV → Prop} (h : o = some w) (hl : w.length ≤ Ev.sizeLine) (k : K w) : ∃ ws, o = some ws ∧ ws.length ≤ Ev.sizeLine ∧ K ws := ⟨w, h, hl, k⟩
theorem w_eqn {α : Type} {a w : α} {K : α → Prop} (h : a = w) (k : K w) : ∃ u, a = u ∧ K u := ⟨w, h, k⟩
theorem w_kw {a b c : List AV} {pm : List Nat} {us a' b' c' : List AV} {K : List AV → List AV → List AV → List AV → Prop} (h1 : a = a') (h2 : b = b') (h3 : a' ++ b' ++ c = c') (h4 : permA pm c' = some us) (k : K us a' b' c') : ∃ us vs' ws' us', a = vs' ∧ b = ws' ∧ vs' ++ ws' ++ c = us' ∧ permA pm us' = some us ∧ K us vs' ws' us' := ⟨us, a', b', c', h1, h2, h3, h4, k⟩
theorem pm_n {vs : List AV} : permA [] vs = some vs := rfl
theorem pmm_n {vs : List AV} : List.mapM (fun i => vs[i]?) ([] : List Nat) = some [] := rfl
theorem pmm_c {i : Nat} {is : List Nat} {v : AV} {vs ws : List AV} (h : vs[i]? = some v) (k : List.mapM (fun i => vs[i]?) is = some ws) : List.mapM (fun i => vs[i]?) (i :: is) = some (v :: ws) := by
  rw [List.mapM_cons, h, k]; rfl
theorem pm_c {i : Nat} {is : List Nat} {vs ws : List AV} (h : List.mapM (fun i => vs[i]?) (i :: is) = some ws) : permA (i :: is) vs = some ws := h
theorem app_3 {a b c d e : List AV} (h : a ++ b = d) (k : d ++ c = e) : a ++ b ++ c = e := by rw [h, k]
theorem w_back {v w : AV} {K : AV → Prop} (h : v.back = some w) (k : K w) : ∃ w, v.back = some w ∧ K w := ⟨w, h, k⟩
theorem w_kept {v w : AV} {K : AV → Prop} (h : v.keep = some w) (k : K w) : ∃ w, v.keep = some w ∧ K w := ⟨w, h, k⟩
theorem w_putt {v w : AV} {b : Bool} {K : AV → Prop} (h : v.put b = some w) (k : K w) : ∃ w, v.put b = some w ∧ K w := ⟨w, h, k⟩
theorem w_pbin {g : G} {op : Operator} {x y w : AV} {K : AV → Prop} (h : binop g op x y = some w) (k : K w) : ∃ v, binop g op x y = some v ∧ K v := ⟨w, h, k⟩
theorem w_pcmp {g : G} {op : CmpOp} {x y : AV} {w : Bool} {K : Bool → Prop} (h : cmpA g op x y = some w) (k : K w) : ∃ v, cmpA g op x y = some v ∧ K v := ⟨w, h, k⟩
theorem w_ptru {g : G} {x : AV} {w : Bool} {K : Bool → Prop} (h : truA g x = some w) (k : K w) : ∃ v, truA g x = some v ∧ K v := ⟨w, h, k⟩
theorem w_pidx {g : G} {x y w : AV} {K : AV → Prop} (h : idxA g x y = some w) (k : K w) : ∃ v, idxA g x y = some v ∧ K v := ⟨w, h, k⟩
theorem w_pbf {g : G} {b : Bf} {xs : List AV} {w : AV} {K : AV → Prop} (h : bfA g b xs = some w) (k : K w) : ∃ v, bfA g b xs = some v ∧ K v := ⟨w, h, k⟩
theorem w_pseqA {g : G} {x : AV} {w : List AV} {K : List AV → Prop} (h : seqA g x = some w) (k : K w) : ∃ v, seqA g x = some v ∧ K v := ⟨w, h, k⟩
theorem w_pseqL {g : G} {x : AV} {w : List AV} {K : List AV → Prop} (h : seqL g x = some w) (k : K w) : ∃ v, seqL g x = some v ∧ K v := ⟨w, h, k⟩
theorem w_prng {xs : List AV} {w : List AV} {K : List AV → Prop} (h : rngA xs = some w) (k : K w) : ∃ v, rngA xs = some v ∧ K v := ⟨w, h, k⟩
theorem rng_ofn {k : Nat} (h : k < 1000000000) : rngA [.int (@OfNat.ofNat Int k (@instOfNat k))] = some ((List.range k).map fun i : Nat => AV.int (i : Int)) := qrng1 h
theorem at_ofn {m k : Nat} (f : Nat → AV) (h : k < m) : atI ((List.range m).map f) (@OfNat.ofNat Int k (@instOfNat k)) = some (f k) := qat_rng f h
theorem qcmp_isB {g : G} (a b : Bool) : cmpA g .Is (.bl a) (.bl b) = some (a == b) := rfl
theorem qcmp_isnB {g : G} (a b : Bool) : cmpA g .IsNot (.bl a) (.bl b) = some (!(a == b)) := rfl
theorem w_eqi {i : Int} {K : Int → Prop} (k : K i) : ∃ j, AV.int i = .int j ∧ K j := ⟨i, rfl, k⟩
theorem w_eqf {f : Nat} {B K : Nat → Prop} (h : B f) (k : K f) : ∃ j, AV.fn f = .fn j ∧ B j ∧ K j := ⟨f, rfl, h, k⟩
theorem lt_sz {n : Nat} (h : n < 1000000) : n < Ev.sizeLine := Nat.lt_of_lt_of_le h (by decide)
theorem qcmp_EqI {g : G} (i j : Int) : cmpA g .Eq (.int i) (.int j) = some (decide (i = j)) := qeqA_int i j
theorem qcmp_NeI {g : G} (i j : Int) : cmpA g .NotEq (.int i) (.int j) = some (!decide (i = j)) := by show (eqA (.int i) (.int j)).map (fun b => !b) = _; rw [qeqA_int]; rfl
theorem qcmp_EqA {g : G} {x y : AV} {b : Bool} (h : eqA x y = some b) : cmpA g .Eq x y = some b := h
theorem qcmp_NeA {g : G} {x y : AV} {b : Bool} (h : eqA x y = some b) : cmpA g .NotEq x y = some (!b) := by show (eqA x y).map (fun b => !b) = _; rw [h]; rfl
theorem qidx_tup_ {g : G} {xs : List AV} {i : Int} {v : AV} (h : atI xs i = some v) : idxA g (.tup xs) (.int i) = some v := h
theorem qidx_lst_ {g : G} {xs : List AV} {i : Int} {v : AV} (h : atI xs i = some v) : idxA g (.lst xs) (.int i) = some v := h
theorem qidx_own_ {g : G} {xs : List AV} {i : Int} {v : AV} (h : atI xs i = some v) : idxA g (.own xs) (.int i) = some v := h
theorem qidx_bor_ {g : G} {k : Bool} {xs : List AV} {i : Int} {v : AV} (h : atI xs i = some v) : idxA g (.bor k xs) (.int i) = some v := h
theorem w_srcA {st : Bool} {v : AV} {B : Prop} (h : srcOk st v = true) (k : B) : srcOk st v = true ∧ B := ⟨h, k⟩
theorem w_pneg {i : Int} {K : AV → Prop} (k : K (.int (-i))) : ∃ v, negA (.int i) = some v ∧ K v := ⟨_, rfl, k⟩
theorem qcmp_is_tt {g : G} : cmpA g .Is (.bl true) (.bl true) = some true := rfl
theorem qcmp_isn_tt {g : G} : cmpA g .IsNot (.bl true) (.bl true) = some false := rfl
theorem qcmp_is_tf {g : G} : cmpA g .Is (.bl true) (.bl false) = some false := rfl
theorem qcmp_isn_tf {g : G} : cmpA g .IsNot (.bl true) (.bl false) = some true := rfl
theorem qcmp_is_ft {g : G} : cmpA g .Is (.bl false) (.bl true) = some false := rfl
theorem qcmp_isn_ft {g : G} : cmpA g .IsNot (.bl false) (.bl true) = some true := rfl
theorem qcmp_is_ff {g : G} : cmpA g .Is (.bl false) (.bl false) = some true := rfl
theorem qcmp_isn_ff {g : G} : cmpA g .IsNot (.bl false) (.bl false) = some false := rfl
theorem wp_v {i : Nat} {k : Bool} {σ σ1 : Sl} (h : σ.set i none = σ1) : wipeA σ (tgI (.v i k)) = σ1 := by
  rw [show tgI (.v i k) = [i] from rfl, wipeA, wipeA, h]
theorem wp_t {ts : List Tg} {σ σ1 : Sl} (h : wipeA σ (tgI.tgIs ts) = σ1) : wipeA σ (tgI (.tup ts)) = σ1 := h
theorem wps_n {σ : Sl} : wipeA σ (tgI.tgIs []) = σ := rfl
theorem wp_app (σ : Sl) : ∀ a b : List Nat, wipeA σ (a ++ b) = wipeA (wipeA σ b) a
  | [], _ => rfl
  | x :: a, b => by rw [List.cons_append, wipeA, wipeA, wp_app σ a b]
theorem wps_c {t : Tg} {ts : List Tg} {σ σ1 σ2 : Sl} (h : wipeA σ (tgI.tgIs ts) = σ1) (k : wipeA σ1 (tgI t) = σ2) : wipeA σ (tgI.tgIs (t :: ts)) = σ2 := by
  rw [show tgI.tgIs (t :: ts) = tgI t ++ tgI.tgIs ts from rfl, wp_app, h, k]
theorem tg_w {t : Tg} {v : AV} {σ σ0 σ1 : Sl} (h : wipeA σ (tgI t) = σ0) (k : tgA t v σ0 = some σ1) : tgA t v (wipeA σ (tgI t)) = some σ1 := by rw [h, k]
theorem w_hnd {v w : AV} {K : AV → Prop} (h : v.hand = w) (k : K w) : ∃ u, v.hand = u ∧ K u := ⟨w, h, k⟩
theorem w_pisiT {P : Pg} {g : G} {t : TyT} {x : AV} {K : Bool → Prop} (h : isinst P g t x = some true) (k : K true) : ∃ v, isinst P g t x = some v ∧ K v := ⟨true, h, k⟩
theorem w_pisiF {P : Pg} {g : G} {t : TyT} {x : AV} {K : Bool → Prop} (h : isinst P g t x = some false) (k : K false) : ∃ v, isinst P g t x = some v ∧ K v := ⟨false, h, k⟩
theorem slc_take {g : G} {xs : List AV} {a : Nat} (h : a ≤ xs.length) : slcA g (.tup xs) none (some (a : Int)) = some (.tup (xs.take a)) := by
  show some (AV.tup (cut xs none (some (a : Int)))) = _
  rw [cutp xs h]
theorem slc_drop {g : G} {xs : List AV} {a : Nat} (h : a ≤ xs.length) : slcA g (.tup xs) (some (a : Int)) none = some (.tup (xs.drop a)) := by
  show some (AV.tup (cut xs (some (a : Int)) none)) = _
  rw [cuts xs h]
theorem slc_drop1 {g : G} {xs : List AV} {a : Nat} (h : a + 1 ≤ xs.length) : slcA g (.tup xs) (some ((a : Int) + 1)) none = some (.tup (xs.drop (a + 1))) := slc_drop (a := a + 1) h
theorem w_pslc {g : G} {x : AV} {l u : Option Int} {w : AV} {K : AV → Prop} (h : slcA g x l u = some w) (k : K w) : ∃ v, slcA g x l u = some v ∧ K v := ⟨w, h, k⟩
theorem qadd_tup {g : G} {xs ys : List AV} (h : xs.length + ys.length ≤ Ev.sizeLine) : binop g .Add (.tup xs) (.tup ys) = some (.tup (xs ++ ys)) := by
  simp only [binop, addA, if_pos h]
theorem w_ntl {t w : Bool} {K : Bool → Prop} (h : (!t) = w) (k : K w) : ∃ u, (!t) = u ∧ K u := ⟨w, h, k⟩
theorem nt_refl {t : Bool} : (!t) = (!t) := rfl
theorem w_pinT {neg : Bool} {ks : List Str} {x w : AV} {K : AV → Prop} (h : inTA neg ks x = some w) (k : K w) : ∃ v, inTA neg ks x = some v ∧ K v := ⟨w, h, k⟩
theorem w_patT {kvs : List (Str × Int × Nat)} {x w : AV} {K : AV → Prop} (h : atTA kvs x = some w) (k : K w) : ∃ v, atTA kvs x = some v ∧ K v := ⟨w, h, k⟩
theorem atT_hd {s : Str} {k : Int} {f : Nat} {r : List (Str × Int × Nat)} : atTA ((s, k, f) :: r) (.str s) = some (.tup [.int k, .fn f]) := by
  show (List.lookup s ((s, k, f) :: r)).map _ = _
  rw [List.lookup, show (s == s) = true from beq_self_eq_true s]; rfl
theorem atT_tl {s t : Str} {p : Int × Nat} {r : List (Str × Int × Nat)} {w : AV} (h : (s == t) = false) (k : atTA r (.str s) = some w) : atTA ((t, p) :: r) (.str s) = some w := by
  show (List.lookup s ((t, p) :: r)).map _ = _
  rw [List.lookup, h]; exact k
theorem dr_0 {α : Type} {l : List α} : l.drop 0 = l := rfl
theorem dr_s {α : Type} {a : α} {l m : List α} {n : Nat} (h : l.drop n = m) : (a :: l).drop (n + 1) = m := h
theorem dr_n {α : Type} {l : List α} {n : Nat} : l.drop n = l.drop n := rfl
theorem tk_0 {α : Type} {l : List α} : l.take 0 = [] := rfl
theorem tk_s {α : Type} {a : α} {l m : List α} {n : Nat} (h : l.take n = m) : (a :: l).take (n + 1) = a :: m := by rw [List.take_succ_cons, h]
theorem tk_n {α : Type} {l : List α} {n : Nat} : l.take n = l.take n := rfl
theorem slc_dropM {g : G} {xs ys : List AV} {a : Nat} (h : a ≤ xs.length) (e : xs.drop a = ys) : slcA g (.tup xs) (some (@OfNat.ofNat Int a (@instOfNat a))) none = some (.tup ys) := e ▸ slc_drop h
theorem slc_takeM {g : G} {xs ys : List AV} {a : Nat} (h : a ≤ xs.length) (e : xs.take a = ys) : slcA g (.tup xs) none (some (@OfNat.ofNat Int a (@instOfNat a))) = some (.tup ys) := e ▸ slc_take h
theorem qcmp_isNt {g : G} {x : AV} (h : isNon x = true) : cmpA g .Is x .non = some true := congrArg some h
theorem qcmp_isNf {g : G} {x : AV} (h : isNon x = false) : cmpA g .Is x .non = some false := congrArg some h
theorem qcmp_isnNt {g : G} {x : AV} (h : isNon x = true) : cmpA g .IsNot x .non = some false := congrArg (fun b => some (!b)) h
theorem qcmp_isnNf {g : G} {x : AV} (h : isNon x = false) : cmpA g .IsNot x .non = some true := congrArg (fun b => some (!b)) h
theorem qcmp_NeAt {g : G} {x y : AV} (h : eqA x y = some true) : cmpA g .NotEq x y = some false := qcmp_NeA h
theorem qcmp_NeAf {g : G} {x y : AV} (h : eqA x y = some false) : cmpA g .NotEq x y = some true := qcmp_NeA h
theorem qmin_t2 {g : G} {x y : Int} : bfA g .min [.tup [.int x, .int y]] = some (.int (if y < x then y else x)) := rfl
theorem qmax_t2 {g : G} {x y : Int} : bfA g .max [.tup [.int x, .int y]] = some (.int (if x < y then y else x)) := rfl
theorem tg_w2 {t t' : Tg} {v : AV} {σ σ0 σ1 σ2 : Sl} (h : wipeA σ (tgI t') = σ0) (h' : wipeA σ0 (tgI t) = σ1) (k : tgA t v σ1 = some σ2) : tgA t v (wipeA σ (tgI t ++ tgI t')) = some σ2 := by rw [wp_app, h, h', k]
theorem at_s {m k : Nat} (f : Nat → AV) (h : k + 1 < m) : atI ((List.range m).map f) ((k : Int) + 1) = some (f (k + 1)) := qat_rng f h
end Ev
end

section
set_option linter.all false
/-! Sums, forms, steps of elimination: plain facts. -/
namespace LA
/-- the sum of f i, i < n -/
def sm (f : Nat → Int) : Nat → Int
  | 0 => 0
  | n + 1 => sm f n + f n
abbrev Mat := Nat → Nat → Int
abbrev Vec := Nat → Int
theorem sm_congr {f g : Nat → Int} : ∀ {n : Nat}, (∀ i, i < n → f i = g i) → sm f n = sm g n
  | 0, _ => rfl
  | n + 1, h => by rw [sm, sm, sm_congr (fun i hi => h i (by omega)), h n (by omega)]
theorem sm_zero {f : Nat → Int} {n : Nat} (h : ∀ i, i < n → f i = 0) : sm f n = 0 := by
  induction n with
  | zero => rfl
  | succ n ih => rw [sm, ih fun i hi => h i (by omega), h n (by omega)]; rfl
theorem sm_add (f g : Nat → Int) : ∀ n, sm (fun i => f i + g i) n = sm f n + sm g n
  | 0 => rfl
  | n + 1 => by simp only [sm, sm_add f g n]; omega
theorem sm_sub (f g : Nat → Int) : ∀ n, sm (fun i => f i - g i) n = sm f n - sm g n
  | 0 => rfl
  | n + 1 => by simp only [sm, sm_sub f g n]; omega
theorem sm_mul (c : Int) (f : Nat → Int) : ∀ n, sm (fun i => c * f i) n = c * sm f n
  | 0 => by simp [sm]
  | n + 1 => by simp only [sm, sm_mul c f n]; rw [Int.mul_add]
theorem sm_mulr (c : Int) (f : Nat → Int) : ∀ n, sm (fun i => f i * c) n = sm f n * c
  | 0 => by simp [sm]
  | n + 1 => by simp only [sm, sm_mulr c f n]; rw [Int.add_mul]
theorem sm_nn {f : Nat → Int} : ∀ {n : Nat}, (∀ i, i < n → 0 ≤ f i) → 0 ≤ sm f n
  | 0, _ => Int.le_refl _
  | n + 1, h => by
    have := sm_nn (n := n) fun i hi => h i (by omega)
    have := h n (by omega)
    rw [sm]; omega
theorem sm_swap (f : Nat → Nat → Int) (m : Nat) : ∀ n, sm (fun i => sm (fun j => f i j) m) n = sm (fun j => sm (fun i => f i j) n) m
  | 0 => by
    show (0 : Int) = _
    exact (sm_zero fun _ _ => rfl).symm
  | n + 1 => by
    simp only [sm]
    rw [sm_swap f m n, sm_add]
/-- one term apart -/
theorem sm_one {f : Nat → Int} {n k : Nat} (hk : k < n) : sm f n = f k + sm (fun i => if i = k then 0 else f i) n := by
  induction n with
  | zero => omega
  | succ n ih =>
    by_cases h : k = n
    · subst h
      have : sm (fun i => if i = k then 0 else f i) k = sm f k := sm_congr fun i hi => if_neg (by omega)
      simp only [sm, this, if_true]
      omega
    · simp only [sm]
      rw [ih (by omega), if_neg (by omega)]
      omega
theorem sm_only {f : Nat → Int} {n k : Nat} (hk : k < n) (h : ∀ i, i < n → i ≠ k → f i = 0) : sm f n = f k := by
  rw [sm_one hk, sm_zero, Int.add_zero]
  intro i hi
  by_cases e : i = k
  · rw [if_pos e]
  · rw [if_neg e]; exact h i hi e
/-- the sum as a list's -/
theorem sum_range (f : Nat → Int) : ∀ n, ((List.range n).map f).sum = sm f n
  | 0 => rfl
  | n + 1 => by rw [List.range_succ, List.map_append, List.sum_append, sum_range f n]; simp [sm]
/-- the linear form of a row -/
def dot (n : Nat) (r x : Vec) : Int := sm (fun j => r j * x j) n
/-- the form's value -/
def qf (n : Nat) (M : Mat) (x : Vec) : Int := sm (fun i => x i * dot n (M i) x) n
def Sym (n : Nat) (M : Mat) : Prop := ∀ i j, i < n → j < n → M i j = M j i
def Psd (n : Nat) (M : Mat) : Prop := ∀ x : Vec, 0 ≤ qf n M x
theorem dot_add (n : Nat) (r x y : Vec) : dot n r (fun i => x i + y i) = dot n r x + dot n r y := by
  unfold dot
  rw [← sm_add]
  exact sm_congr fun i _ => by rw [Int.mul_add]
theorem dot_smul (n : Nat) (r x : Vec) (c : Int) : dot n r (fun i => c * x i) = c * dot n r x := by
  unfold dot
  rw [← sm_mul]
  exact sm_congr fun i _ => by grind
theorem qf_congr {n : Nat} {M N : Mat} {x y : Vec} (h : ∀ i j, i < n → j < n → M i j = N i j) (hx : ∀ i, i < n → x i = y i) : qf n M x = qf n N y := by
  unfold qf dot
  refine sm_congr fun i hi => ?_
  rw [hx i hi]
  congr 1
  exact sm_congr fun j hj => by rw [h i j hi hj, hx j hj]
theorem qf_lin (n : Nat) (M N : Mat) (a b : Int) (x : Vec) : qf n (fun i j => a * M i j + b * N i j) x = a * qf n M x + b * qf n N x := by
  unfold qf
  rw [← sm_mul, ← sm_mul, ← sm_add]
  refine sm_congr fun i _ => ?_
  unfold dot
  have : sm (fun j => (a * M i j + b * N i j) * x j) n = a * sm (fun j => M i j * x j) n + b * sm (fun j => N i j * x j) n := by
    rw [← sm_mul, ← sm_mul, ← sm_add]
    exact sm_congr fun j _ => by grind
  rw [this]; grind
theorem qf_rank1 (n : Nat) (u v x : Vec) : qf n (fun i j => u i * v j) x = dot n u x * dot n v x := by
  unfold qf
  have : ∀ i, dot n (fun j => u i * v j) x = u i * dot n v x := by
    intro i
    unfold dot
    rw [← sm_mul]
    exact sm_congr fun j _ => by grind
  simp only [this]
  have e : sm (fun i => x i * (u i * dot n v x)) n = sm (fun i => (u i * x i) * dot n v x) n := sm_congr fun i _ => by grind
  rw [e, sm_mulr]
  rfl
def sg (p : Int) : Int := if 0 < p then 1 else -1
theorem sg_abs {p : Int} (h : p ≠ 0) : sg p * p = (p.natAbs : Int) := by
  unfold sg
  split <;> omega
theorem sg_sq (p : Int) : sg p * sg p = 1 := by
  unfold sg
  split <;> rfl
/-- a step of elimination at k -/
structure Step (n : Nat) (R : Mat) (c : Int) (k : Nat) (R' : Mat) (c' : Int) : Prop where
  kn : k < n
  pz : R k k ≠ 0
  ex : ∃ g : Int, 0 < g ∧ c' * g = c * ((R k k).natAbs : Int) ∧ ∀ i j, i < n → j < n → R' i j * g = ((R k k).natAbs : Int) * R i j - sg (R k k) * R i k * R k j
section
variable {n k : Nat} {R R' : Mat} {c c' : Int}
theorem Step.sym (s : Step n R c k R' c') (h : Sym n R) : Sym n R' := by
  obtain ⟨g, hg, _, e⟩ := s.ex
  intro i j hi hj
  have e1 := e i j hi hj
  have e2 := e j i hj hi
  rw [h i j hi hj, h i k hi s.kn, h k j s.kn hj] at e1
  have : R' i j * g = R' j i * g := by rw [e1, e2]; grind
  exact Int.eq_of_mul_eq_mul_right (by omega) this
theorem Step.row0 (s : Step n R c k R' c') : ∀ j, j < n → R' k j = 0 := by
  obtain ⟨g, hg, _, e⟩ := s.ex
  intro j hj
  have e1 := e k j s.kn hj
  have hp := sg_abs s.pz
  have : R' k j * g = 0 := by rw [e1, ← hp]; grind
  rcases Int.mul_eq_zero.mp this with h | h
  · exact h
  · omega
theorem Step.keep0 (s : Step n R c k R' c') {i : Nat} (hi : i < n) (h : ∀ j, j < n → R i j = 0) : ∀ j, j < n → R' i j = 0 := by
  obtain ⟨g, hg, _, e⟩ := s.ex
  intro j hj
  have e1 := e i j hi hj
  rw [h j hj, h k s.kn] at e1
  have : R' i j * g = 0 := by rw [e1]; grind
  rcases Int.mul_eq_zero.mp this with h | h
  · exact h
  · omega
theorem Step.cpos (s : Step n R c k R' c') (h : 0 < c) : 0 < c' := by
  obtain ⟨g, hg, e, _⟩ := s.ex
  have hp : 0 < ((R k k).natAbs : Int) := by have := s.pz; omega
  have : 0 < c' * g := by rw [e]; exact Int.mul_pos h hp
  exact Int.pos_of_mul_pos_left this hg |> fun h => h
/-- the form before the step by the form behind it -/
theorem Step.qf (s : Step n R c k R' c') (h : Sym n R) : ∃ g : Int, 0 < g ∧ ∀ x : Vec, ((R k k).natAbs : Int) * qf n R x = g * LA.qf n R' x + sg (R k k) * (dot n (R k) x * dot n (R k) x) := by
  obtain ⟨g, hg, _, e⟩ := s.ex
  refine ⟨g, hg, fun x => ?_⟩
  have h1 : LA.qf n (fun i j => g * R' i j + sg (R k k) * (R k i * R k j)) x = g * LA.qf n R' x + sg (R k k) * (dot n (R k) x * dot n (R k) x) := by
    rw [qf_lin n R' (fun i j => R k i * R k j) g (sg (R k k)) x, qf_rank1]
  have h2 : LA.qf n (fun i j => ((R k k).natAbs : Int) * R i j + 0 * R i j) x = ((R k k).natAbs : Int) * LA.qf n R x := by
    rw [qf_lin]; grind
  rw [← h1, ← h2]
  refine qf_congr (fun i j hi hj => ?_) fun _ _ => rfl
  have e1 := e i j hi hj
  rw [h i k hi s.kn] at e1
  grind
/-- a vector brought to the row's kernel -/
def lift (n : Nat) (r : Vec) (k : Nat) (x : Vec) : Vec := fun i => if i = k then -(sm (fun j => if j = k then 0 else r j * x j) n) else r k * x i
theorem lift_dot {n k : Nat} (r x : Vec) (hk : k < n) : dot n r (lift n r k x) = 0 := by
  unfold dot
  rw [sm_one hk]
  have e1 : sm (fun i => if i = k then 0 else r i * lift n r k x i) n = r k * sm (fun j => if j = k then 0 else r j * x j) n := by
    rw [← sm_mul]
    refine sm_congr fun i _ => ?_
    by_cases hi : i = k
    · rw [if_pos hi, if_pos hi]; grind
    · rw [if_neg hi, if_neg hi]
      unfold lift
      rw [if_neg hi]; grind
  rw [e1]
  unfold lift
  rw [if_pos rfl]; grind
theorem Step.lift_qf (s : Step n R c k R' c') (h : Sym n R) (x : Vec) : ∃ a b : Int, 0 < a ∧ 0 < b ∧ a * LA.qf n R (lift n (R k) k x) = b * LA.qf n R' x := by
  obtain ⟨g, hg, e⟩ := s.qf h
  have hp := s.pz
  refine ⟨((R k k).natAbs : Int), g * (R k k * R k k), by omega, ?_, ?_⟩
  · have : 0 < R k k * R k k := by
      rcases Int.lt_or_gt_of_ne hp with q | q
      · exact Int.mul_pos_of_neg_of_neg q q
      · exact Int.mul_pos q q
    exact Int.mul_pos hg this
  · rw [e, lift_dot (R k) x s.kn]
    have sy := s.sym h
    have r0 := s.row0
    have : LA.qf n R' (lift n (R k) k x) = (R k k * R k k) * LA.qf n R' x := by
      unfold LA.qf
      rw [← sm_mul]
      refine sm_congr fun i hi => ?_
      have d : dot n (R' i) (lift n (R k) k x) = R k k * dot n (R' i) x := by
        unfold dot
        rw [← sm_mul]
        refine sm_congr fun j hj => ?_
        by_cases hj' : j = k
        · subst hj'
          rw [sy i j hi hj, r0 i hi]; grind
        · unfold lift
          rw [if_neg hj']; grind
      rw [d]
      by_cases hi' : i = k
      · subst hi'
        have : dot n (R' i) x = 0 := by
          unfold dot
          exact sm_zero fun j hj => by rw [r0 j hj]; grind
        rw [this]; grind
      · unfold lift
        rw [if_neg hi']; grind
    rw [this]; grind
end

/-! ### forms and signs -/
theorem Step.psd_of {n k : Nat} {R R' : Mat} {c c' : Int} (s : Step n R c k R' c') (h : Sym n R) (hp : 0 < R k k) (q : Psd n R') : Psd n R := by
  obtain ⟨g, hg, e⟩ := s.qf h
  intro x
  have e := e x
  have h1 := q x
  have h2 : sg (R k k) = 1 := if_pos hp
  have h3 : 0 ≤ dot n (R k) x * dot n (R k) x := by
    rcases Int.le_total 0 (dot n (R k) x) with z | z
    · exact Int.mul_nonneg z z
    · exact Int.mul_nonneg_of_nonpos_of_nonpos z z
  have h4 : 0 ≤ g * LA.qf n R' x := Int.mul_nonneg (by omega) h1
  rw [h2, Int.one_mul] at e
  have h5 : 0 < ((R k k).natAbs : Int) := by omega
  have h6 : 0 ≤ ((R k k).natAbs : Int) * LA.qf n R x := by omega
  exact Int.nonneg_of_mul_nonneg_right h6 h5 |> fun z => z
theorem Step.psd_to {n k : Nat} {R R' : Mat} {c c' : Int} (s : Step n R c k R' c') (h : Sym n R) (q : Psd n R) : Psd n R' := by
  intro x
  obtain ⟨a, b, ha, hb, e⟩ := s.lift_qf h x
  have h1 : 0 ≤ a * LA.qf n R (lift n (R k) k x) := Int.mul_nonneg (by omega) (q _)
  rw [e] at h1
  exact Int.nonneg_of_mul_nonneg_right h1 hb
def unit (k : Nat) : Vec := fun i => if i = k then 1 else 0
theorem dot_unit {n k : Nat} (r : Vec) (hk : k < n) : dot n r (unit k) = r k := by
  unfold dot
  rw [sm_only hk]
  · unfold unit; rw [if_pos rfl]; grind
  · intro i _ hi
    unfold unit; rw [if_neg hi]; grind
theorem qf_unit {n k : Nat} (M : Mat) (hk : k < n) : qf n M (unit k) = M k k := by
  unfold qf
  rw [sm_only hk]
  · rw [dot_unit _ hk]; unfold unit; rw [if_pos rfl]; grind
  · intro i _ hi
    unfold unit; rw [if_neg hi]; grind
theorem qf_two {n i j : Nat} (M : Mat) (h : Sym n M) (hi : i < n) (hj : j < n) (s : Int) (hne : i ≠ j) : qf n M (fun t => unit i t + s * unit j t) = M i i + 2 * s * M i j + s * s * M j j := by
  have d : ∀ r : Vec, dot n r (fun t => unit i t + s * unit j t) = r i + s * r j := by
    intro r
    rw [dot_add n r (unit i) (fun t => s * unit j t), dot_smul, dot_unit _ hi, dot_unit _ hj]
  unfold qf
  simp only [d]
  have e1 : sm (fun t => (unit i t + s * unit j t) * (M t i + s * M t j)) n = dot n (fun t => M t i + s * M t j) (unit i) + s * dot n (fun t => M t i + s * M t j) (unit j) := by
    unfold dot
    rw [← sm_mul, ← sm_add]
    exact sm_congr fun t _ => by grind
  rw [e1, dot_unit _ hi, dot_unit _ hj, h j i hj hi]
  grind
/-- nothing is above nought on the diagonal, and something is left: not all values are at least nought -/
theorem not_psd_rest {n : Nat} {M : Mat} (h : Sym n M) (d : ∀ i, i < n → M i i ≤ 0) (e : ∃ i j, i < n ∧ j < n ∧ M i j ≠ 0) : ¬ Psd n M := by
  intro q
  obtain ⟨i, j, hi, hj, hne⟩ := e
  by_cases hd : M i i = 0
  · have hij : i ≠ j := by rintro rfl; exact hne hd
    have h1 := q (fun t => unit i t + (-(sg (M i j))) * unit j t)
    rw [qf_two M h hi hj _ hij] at h1
    have h2 := sg_abs hne
    have h3 := sg_sq (M i j)
    have h4 := d j hj
    have h5 : M i i + 2 * -sg (M i j) * M i j + -sg (M i j) * -sg (M i j) * M j j = M i i - 2 * (sg (M i j) * M i j) + (sg (M i j) * sg (M i j)) * M j j := by grind
    rw [h5, h2, h3] at h1
    omega
  · have h1 := q (unit i)
    rw [qf_unit M hi] at h1
    have := d i hi
    omega
theorem psd_zero {n : Nat} {M : Mat} (h : ∀ i j, i < n → j < n → M i j = 0) : Psd n M := by
  intro x
  have : qf n M x = 0 := by
    unfold qf
    refine sm_zero fun i hi => ?_
    have : dot n (M i) x = 0 := sm_zero fun j hj => by rw [h i j hi hj]; grind
    rw [this]; grind
  omega
/-- steps, one behind another -/
inductive Run (n : Nat) (R0 : Mat) (c0 : Int) : List (Nat × Vec × Int) → Mat → Int → Prop where
  | nil : Run n R0 c0 [] R0 c0
  | snoc {l : List (Nat × Vec × Int)} {R R' : Mat} {c c' : Int} {k : Nat} (r : Run n R0 c0 l R c) (p : 0 < R k k) (s : Step n R c k R' c') : Run n R0 c0 (l ++ [(k, R k, c)]) R' c'
section
variable {n : Nat} {R0 R : Mat} {c0 c : Int} {l : List (Nat × Vec × Int)}
theorem Run.sym (r : Run n R0 c0 l R c) (h : Sym n R0) : Sym n R := by
  induction r with
  | nil => exact h
  | snoc _ _ s ih => exact s.sym ih
theorem Run.cpos (r : Run n R0 c0 l R c) (h : 0 < c0) : 0 < c := by
  induction r with
  | nil => exact h
  | snoc _ _ s ih => exact s.cpos ih
theorem Run.psd (r : Run n R0 c0 l R c) (h : Sym n R0) : Psd n R0 ↔ Psd n R := by
  induction r with
  | nil => exact Iff.rfl
  | snoc r p s ih =>
    rw [ih]
    exact ⟨s.psd_to (r.sym h), s.psd_of (r.sym h) p⟩
/-- the end tells whether all values are at least nought -/
theorem Run.whole (r : Run n R0 c0 l R c) (h : Sym n R0) (d : ∀ i, i < n → R i i ≤ 0) : (∀ i j, i < n → j < n → R i j = 0) ↔ Psd n R0 := by
  rw [r.psd h]
  constructor
  · exact psd_zero
  · intro q i j hi hj
    by_cases e : R i j = 0
    · exact e
    · exact (not_psd_rest (r.sym h) d ⟨i, j, hi, hj, e⟩ q).elim
end
/-! ### how many rows are left -/
def rz (n : Nat) (R : Mat) (i : Nat) : Prop := ∀ j, j < n → R i j = 0
instance (n : Nat) (R : Mat) (i : Nat) : Decidable (rz n R i) := inferInstanceAs (Decidable (∀ j, j < n → R i j = 0))
def nzr (n : Nat) (R : Mat) : Nat → Nat
  | 0 => 0
  | i + 1 => nzr n R i + (if rz n R i then 0 else 1)
theorem nzr_le (n : Nat) (R : Mat) : ∀ i, nzr n R i ≤ i
  | 0 => Nat.le_refl _
  | i + 1 => by have := nzr_le n R i; rw [nzr]; split <;> omega
theorem nzr_mono {n : Nat} {R R' : Mat} : ∀ {m : Nat}, (∀ i, i < m → rz n R i → rz n R' i) → nzr n R' m ≤ nzr n R m
  | 0, _ => Nat.le_refl _
  | m + 1, h => by
    have := nzr_mono (m := m) fun i hi => h i (by omega)
    rw [nzr, nzr]
    by_cases e : rz n R m
    · rw [if_pos e, if_pos (h m (by omega) e)]; omega
    · rw [if_neg e]; split <;> omega
theorem nzr_lt {n k : Nat} {R R' : Mat} : ∀ {m : Nat}, (∀ i, i < m → rz n R i → rz n R' i) → k < m → ¬ rz n R k → rz n R' k → nzr n R' m < nzr n R m
  | 0, _, hk, _, _ => by omega
  | m + 1, h, hk, h1, h2 => by
    rw [nzr, nzr]
    by_cases e : k = m
    · subst e
      have := nzr_mono (m := k) fun i hi => h i (by omega)
      rw [if_neg h1, if_pos h2]; omega
    · have := nzr_lt (m := m) (fun i hi => h i (by omega)) (by omega) h1 h2
      by_cases e : rz n R m
      · rw [if_pos e, if_pos (h m (by omega) e)]; omega
      · rw [if_neg e]; split <;> omega
theorem Step.nzr_lt {n k : Nat} {R R' : Mat} {c c' : Int} (s : Step n R c k R' c') : nzr n R' n < nzr n R n :=
  LA.nzr_lt (fun i hi h => s.keep0 hi h) s.kn (fun h => s.pz (h k s.kn)) s.row0
/-! ### how great numbers are -/
def bt (b : Nat) (x : Int) : Prop := x.natAbs < 2 ^ b
theorem bt.mono {a b : Nat} {x : Int} (h : bt a x) (l : a ≤ b) : bt b x := Nat.lt_of_lt_of_le h (Nat.pow_le_pow_right (by decide) l)
theorem bt.mul {a b : Nat} {x y : Int} (h : bt a x) (k : bt b y) : bt (a + b) (x * y) := by
  unfold bt at *
  rw [Int.natAbs_mul, Nat.pow_add]
  exact Nat.mul_lt_mul'' h k
theorem bt.add {b : Nat} {x y : Int} (h : bt b x) (k : bt b y) : bt (b + 1) (x + y) := by
  unfold bt at *
  have := Int.natAbs_add_le x y
  rw [Nat.pow_succ]; omega
theorem bt.sub {b : Nat} {x y : Int} (h : bt b x) (k : bt b y) : bt (b + 1) (x - y) := by
  unfold bt at *
  have := Int.natAbs_sub_le x y
  rw [Nat.pow_succ]; omega
theorem bt.neg {b : Nat} {x : Int} (h : bt b x) : bt b (-x) := by
  unfold bt at *
  rw [Int.natAbs_neg]; exact h
theorem bt.log {b : Nat} {x : Int} (h : bt b x) : x.natAbs.log2 ≤ b := by
  unfold bt at h
  by_cases e : x.natAbs = 0
  · rw [e]; exact Nat.zero_le _
  · exact Nat.le_of_lt ((Nat.log2_lt e).mpr h)
theorem bt.le {b : Nat} {x y : Int} (h : bt b x) (l : y.natAbs ≤ x.natAbs) : bt b y := Nat.lt_of_le_of_lt l h
theorem sm_bt {f : Nat → Int} {b : Nat} : ∀ {n : Nat}, n ≤ 8 → (∀ i, i < n → bt b (f i)) → bt (b + 3) (sm f n) := by
  have gen : ∀ n, (∀ i, i < n → bt b (f i)) → (sm f n).natAbs ≤ n * 2 ^ b := by
    intro n
    induction n with
    | zero => intro _; simp [sm]
    | succ n ih =>
      intro h
      have h1 := ih fun i hi => h i (by omega)
      have h2 : (f n).natAbs < 2 ^ b := h n (by omega)
      have h3 := Int.natAbs_add_le (sm f n) (f n)
      rw [sm, Nat.add_mul]
      omega
  intro n hn h
  by_cases h0 : n = 0
  · subst h0; exact Nat.two_pow_pos _
  · have h1 := gen n h
    have h2 : 0 < 2 ^ b := Nat.two_pow_pos b
    have h3 : 2 ^ (b + 3) = 8 * 2 ^ b := by rw [Nat.pow_add]; omega
    unfold bt
    have h4 : n * 2 ^ b ≤ 8 * 2 ^ b := Nat.mul_le_mul_right _ hn
    by_cases h8 : (sm f n).natAbs = 8 * 2 ^ b
    · exfalso
      obtain ⟨k, rfl⟩ : ∃ k, n = k + 1 := ⟨n - 1, by omega⟩
      have h5 := gen k fun i hi => h i (by omega)
      have h6 : (f k).natAbs < 2 ^ b := h k (by omega)
      have h7 := Int.natAbs_add_le (sm f k) (f k)
      rw [sm] at h8
      have h9 : k * 2 ^ b ≤ 7 * 2 ^ b := Nat.mul_le_mul_right _ (by omega)
      omega
    · omega
end LA
end

section
set_option Elab.async false
set_option linter.all false
set_option maxRecDepth 100000
/-! How great numbers are, for the evaluator's operators. -/
namespace LA
open Ev
theorem mulOk_bt {a b : Nat} {x y : Int} (h : bt a x) (k : bt b y) (l : a + b < 134217000) : mulOk x y = true := by
  have h1 := h.log
  have h2 := k.log
  simp only [mulOk, Bool.or_eq_true, decide_eq_true_eq]
  exact .inr (by omega)
theorem divOk_bt {a : Nat} {x : Int} (h : bt a x) (h0 : x ≠ 0) (l : a < 9000) : divOk x = true := by
  have h1 := h.log
  simp only [divOk, Bool.and_eq_true, decide_eq_true_eq]
  exact ⟨h0, by omega⟩
theorem bt_dvd {a : Nat} {x d : Int} (h : bt a x) (h0 : x ≠ 0) (hd : d ∣ x) : bt a d := by
  refine h.le ?_
  have := Int.natAbs_dvd_natAbs.mpr hd
  exact Nat.le_of_dvd (by omega) this
theorem bt_ediv {a : Nat} {x d : Int} (h : bt a x) : bt a (x / d) := by
  refine h.le ?_
  exact Int.natAbs_ediv_le_natAbs ..
theorem bt_sg {p : Int} : bt 1 (sg p) := by
  unfold bt sg
  split <;> decide
theorem bt_small {x : Int} {b : Nat} (B : Nat) (h : x.natAbs ≤ B) (hb : B < 2 ^ b) : bt b x := Nat.lt_of_le_of_lt h hb
end LA
end

section
set_option linter.all false
/-! Determinants: plain facts. -/
namespace LA
def sgn (k : Nat) : Int := if k % 2 = 0 then 1 else -1
theorem sgn_succ (k : Nat) : sgn (k + 1) = - sgn k := by
  unfold sgn
  by_cases h : k % 2 = 0
  · rw [if_pos h, if_neg (by omega)]
  · rw [if_neg h, if_pos (by omega)]; rfl
theorem sm_split (f : Nat → Int) (a : Nat) : ∀ b, sm f (a + b) = sm f a + sm (fun i => f (a + i)) b
  | 0 => by simp [sm]
  | b + 1 => by
    rw [show a + (b + 1) = (a + b) + 1 by omega, sm, sm_split f a b, sm]; omega
/-- two terms alone -/
theorem sm_two {f : Nat → Int} {n p q : Nat} (hp : p < n) (hq : q < n) (hne : p ≠ q) (h : ∀ i, i < n → i ≠ p → i ≠ q → f i = 0) : sm f n = f p + f q := by
  rw [sm_one hp, sm_only hq]
  · rw [if_neg (fun h => hne h.symm)]
  · intro i hi hiq
    by_cases e : i = p
    · rw [if_pos e]
    · rw [if_neg e]; exact h i hi e hiq
/-- without row k and the first column -/
def mnr (M : Mat) (k : Nat) : Mat := fun i j => M (if i < k then i else i + 1) (j + 1)
/-- the determinant, by the first column -/
def det : Nat → Mat → Int
  | 0, _ => 1
  | n + 1, M => sm (fun k => sgn k * M k 0 * det n (mnr M k)) (n + 1)
theorem det_congr : ∀ {n : Nat} {M N : Mat}, (∀ i j, i < n → j < n → M i j = N i j) → det n M = det n N
  | 0, _, _, _ => rfl
  | n + 1, M, N, h => by
    rw [det, det]
    refine sm_congr fun k hk => ?_
    rw [h k 0 hk (by omega), det_congr (n := n) (M := mnr M k) (N := mnr N k)]
    intro i j hi hj
    unfold mnr
    split
    · exact h _ _ (by omega) (by omega)
    · exact h _ _ (by omega) (by omega)
/-- another row in a place -/
def setR (M : Mat) (r : Nat) (v : Vec) : Mat := fun i j => if i = r then v j else M i j
theorem setR_self (M : Mat) (r : Nat) (v : Vec) : setR M r v r = v := by funext j; unfold setR; rw [if_pos rfl]
theorem setR_ne {M : Mat} {r i : Nat} {v : Vec} (h : i ≠ r) : setR M r v i = M i := by funext j; unfold setR; rw [if_neg h]
theorem setR_same (M : Mat) (r : Nat) : setR M r (M r) = M := by
  funext i j; unfold setR
  by_cases h : i = r
  · rw [if_pos h, h]
  · rw [if_neg h]
theorem setR_comm (M : Mat) {r s : Nat} (h : r ≠ s) (u v : Vec) : setR (setR M r u) s v = setR (setR M s v) r u := by
  funext i j; unfold setR
  by_cases h1 : i = r
  · subst h1; rw [if_neg h, if_pos rfl, if_pos rfl]
  · by_cases h2 : i = s
    · rw [if_pos h2, if_neg h1, if_pos h2]
    · rw [if_neg h2, if_neg h1, if_neg h1, if_neg h2]
theorem mnr_set_same (M : Mat) (r : Nat) (v : Vec) : mnr (setR M r v) r = mnr M r := by
  funext i j; unfold mnr setR
  by_cases h : i < r
  · rw [if_pos h, if_neg (by omega)]
  · rw [if_neg h, if_neg (by omega)]
theorem mnr_set_lt (M : Mat) {r k : Nat} (h : r < k) (v : Vec) : mnr (setR M r v) k = setR (mnr M k) r (fun j => v (j + 1)) := by
  funext i j
  show (if (if i < k then i else i + 1) = r then v (j + 1) else M (if i < k then i else i + 1) (j + 1)) = if i = r then v (j + 1) else M (if i < k then i else i + 1) (j + 1)
  by_cases h1 : i < k
  · rw [if_pos h1]
  · rw [if_neg h1, if_neg (by omega), if_neg (by omega)]
theorem mnr_set_gt (M : Mat) {r k : Nat} (h : k < r) (v : Vec) : mnr (setR M r v) k = setR (mnr M k) (r - 1) (fun j => v (j + 1)) := by
  funext i j
  show (if (if i < k then i else i + 1) = r then v (j + 1) else M (if i < k then i else i + 1) (j + 1)) = if i = r - 1 then v (j + 1) else M (if i < k then i else i + 1) (j + 1)
  by_cases h1 : i < k
  · rw [if_pos h1, if_neg (by omega), if_neg (by omega)]
  · rw [if_neg h1]
    by_cases h2 : i + 1 = r
    · rw [if_pos h2, if_pos (by omega)]
    · rw [if_neg h2, if_neg (by omega)]
/-- what is linear in each row and 0 for two equal rows beside one another -/
structure Alt (n : Nat) (D : Mat → Int) : Prop where
  cg : ∀ {M N : Mat}, (∀ i j, i < n → j < n → M i j = N i j) → D M = D N
  lin : ∀ (M : Mat) {r : Nat} (a b : Int) (u v : Vec), r < n → D (setR M r fun j => a * u j + b * v j) = a * D (setR M r u) + b * D (setR M r v)
  adj : ∀ {M : Mat} {r : Nat}, r + 1 < n → (∀ j, j < n → M r j = M (r + 1) j) → D M = 0
theorem det_lin : ∀ {n : Nat} (M : Mat) {r : Nat} (a b : Int) (u v : Vec), r < n → det n (setR M r fun j => a * u j + b * v j) = a * det n (setR M r u) + b * det n (setR M r v)
  | 0, _, _, _, _, _, _, h => by omega
  | n + 1, M, r, a, b, u, v, hr => by
    rw [det, det, det, ← sm_mul, ← sm_mul, ← sm_add]
    refine sm_congr fun k hk => ?_
    by_cases h : k = r
    · subst h
      simp only [mnr_set_same, setR_self]
      grind
    · rw [setR_ne h, setR_ne h, setR_ne h]
      by_cases h2 : r < k
      · simp only [mnr_set_lt M h2]
        rw [det_lin (n := n) (mnr M k) a b (fun j => u (j + 1)) (fun j => v (j + 1)) (by omega)]
        grind
      · simp only [mnr_set_gt M (show k < r by omega)]
        rw [det_lin (n := n) (mnr M k) a b (fun j => u (j + 1)) (fun j => v (j + 1)) (by omega)]
        grind
theorem det_adj : ∀ {n : Nat} {M : Mat} {r : Nat}, r + 1 < n → (∀ j, j < n → M r j = M (r + 1) j) → det n M = 0
  | 0, _, _, h, _ => by omega
  | n + 1, M, r, hr, h => by
    rw [det, sm_two (p := r) (q := r + 1) (by omega) hr (by omega)]
    · rw [sgn_succ, h 0 (by omega)]
      have : det n (mnr M r) = det n (mnr M (r + 1)) := det_congr fun i j hi hj => by
        unfold mnr
        by_cases h1 : i < r
        · rw [if_pos h1, if_pos (by omega)]
        · by_cases h2 : i = r
          · subst h2; rw [if_neg (by omega), if_pos (by omega)]; exact (h (j + 1) (by omega)).symm
          · rw [if_neg h1, if_neg (by omega)]
      rw [this]; grind
    · intro k hk h1 h2
      have : det n (mnr M k) = 0 := by
        by_cases h3 : k < r
        · refine det_adj (r := r - 1) (by omega) fun j hj => ?_
          unfold mnr
          rw [if_neg (by omega), if_neg (by omega), show r - 1 + 1 = r by omega]
          exact h _ (by omega)
        · refine det_adj (r := r) (by omega) fun j hj => ?_
          unfold mnr
          rw [if_pos (by omega), if_pos (by omega)]
          exact h _ (by omega)
      rw [this, Int.mul_zero]
theorem det_alt (n : Nat) : Alt n (det n) := ⟨det_congr, det_lin, det_adj⟩
/-- rows exchanged -/
def swp (M : Mat) (p q : Nat) : Mat := fun i => M (if i = p then q else if i = q then p else i)
section
variable {n : Nat} {D : Mat → Int}
theorem swp_eq (M : Mat) {p q : Nat} (h : p ≠ q) : swp M p q = setR (setR M p (M q)) q (M p) := by
  funext i j; unfold swp setR
  by_cases h1 : i = p
  · rw [if_pos h1, if_neg (by omega), if_pos h1]
  · by_cases h2 : i = q
    · rw [if_neg h1, if_pos h2, if_pos h2]
    · rw [if_neg h1, if_neg h2, if_neg h2, if_neg h1]
/-- from equal rows to exchanged ones -/
theorem Alt.swap_of (A : Alt n D) {p q : Nat} (hp : p < n) (hq : q < n) (hne : p ≠ q) (z : ∀ N : Mat, (∀ j, j < n → N p j = N q j) → D N = 0) (M : Mat) : D (swp M p q) = - D M := by
  have two : ∀ u v : Vec, D (setR (setR M p fun j => u j + v j) q fun j => u j + v j) = 0 := fun u v => z _ fun j _ => by
    rw [setR_ne hne, setR_self, setR_self]
  have l1 := fun (N : Mat) (u v : Vec) => A.lin N (r := p) 1 1 u v hp
  have l2 := fun (N : Mat) (u v : Vec) => A.lin N (r := q) 1 1 u v hq
  simp only [Int.one_mul] at l1 l2
  have h := two (M p) (M q)
  rw [l2, setR_comm M hne, l1, setR_comm M hne, l1] at h
  rw [← setR_comm M hne, ← setR_comm M hne, ← setR_comm M hne, ← setR_comm M hne] at h
  have z1 : D (setR (setR M p (M p)) q (M p)) = 0 := z _ fun j _ => by rw [setR_ne hne, setR_self, setR_self]
  have z2 : D (setR (setR M p (M q)) q (M q)) = 0 := z _ fun j _ => by rw [setR_ne hne, setR_self, setR_self]
  have e1 : setR (setR M p (M p)) q (M q) = M := by rw [setR_same, setR_same]
  rw [z1, z2, e1] at h
  rw [swp_eq M hne]
  omega
theorem Alt.swapA (A : Alt n D) {r : Nat} (h : r + 1 < n) (M : Mat) : D (swp M r (r + 1)) = - D M :=
  A.swap_of (by omega) h (by omega) (fun N hN => A.adj h hN) M
theorem Alt.eq_rows (A : Alt n D) : ∀ (d : Nat) {M : Mat} {p : Nat}, p + d + 1 < n → (∀ j, j < n → M p j = M (p + d + 1) j) → D M = 0
  | 0, M, p, h, e => A.adj h e
  | d + 1, M, p, h, e => by
    have h1 := A.swapA (r := p + d + 1) (by omega) M
    have h2 := A.eq_rows d (M := swp M (p + d + 1) (p + d + 1 + 1)) (p := p) (by omega) fun j hj => by
      unfold swp
      rw [if_neg (by omega), if_neg (by omega), if_pos rfl]
      exact e j hj
    omega
theorem Alt.two (A : Alt n D) {M : Mat} {p q : Nat} (hp : p < n) (hq : q < n) (hne : p ≠ q) (e : ∀ j, j < n → M p j = M q j) : D M = 0 := by
  rcases Nat.lt_or_gt_of_ne hne with h | h
  · exact A.eq_rows (q - p - 1) (p := p) (by omega) fun j hj => by rw [show p + (q - p - 1) + 1 = q by omega]; exact e j hj
  · exact A.eq_rows (p - q - 1) (p := q) (by omega) fun j hj => by rw [show q + (p - q - 1) + 1 = p by omega]; exact (e j hj).symm
theorem Alt.swap (A : Alt n D) {p q : Nat} (hp : p < n) (hq : q < n) (hne : p ≠ q) (M : Mat) : D (swp M p q) = - D M :=
  A.swap_of hp hq hne (fun N hN => A.two hp hq hne hN) M
theorem Alt.smul (A : Alt n D) {r : Nat} (hr : r < n) (M : Mat) (c : Int) (u : Vec) : D (setR M r fun j => c * u j) = c * D (setR M r u) := by
  have := A.lin M (r := r) c 0 u u hr
  simp only [Int.zero_mul, Int.add_zero] at this
  exact this
theorem Alt.sum (A : Alt n D) {r : Nat} (hr : r < n) (M : Mat) (y : Vec) (V : Mat) : ∀ m, D (setR M r fun j => sm (fun s => y s * V s j) m) = sm (fun s => y s * D (setR M r (V s))) m
  | 0 => by
    have := A.lin M (r := r) 0 0 (fun _ => 0) (fun _ => 0) hr
    simp only [Int.zero_mul, Int.add_zero] at this
    exact this
  | m + 1 => by
    have := A.lin M (r := r) 1 (y m) (fun j => sm (fun s => y s * V s j) m) (V m) hr
    simp only [Int.one_mul, A.sum hr M y V m] at this
    exact this
/-- a row replaced by a sum of all rows -/
theorem Alt.comb (A : Alt n D) {r : Nat} (hr : r < n) (M : Mat) (y : Vec) : D (setR M r fun j => sm (fun s => y s * M s j) n) = y r * D M := by
  rw [A.sum hr M y M n, sm_only hr]
  · rw [setR_same]
  · intro s hs hne
    rw [A.two (p := r) (q := s) hr hs (fun h => hne h.symm), Int.mul_zero]
    intro j _
    rw [setR_self, setR_ne hne]
/-- a row times a number, less some of another one -/
theorem Alt.add (A : Alt n D) {r s : Nat} (hr : r < n) (hs : s < n) (hne : r ≠ s) (M : Mat) (a b : Int) : D (setR M r fun j => a * M r j + b * M s j) = a * D M := by
  rw [A.lin M a b (M r) (M s) hr, setR_same, A.two (M := setR M r (M s)) (p := r) (q := s) hr hs hne, Int.mul_zero, Int.add_zero]
  intro j _
  rw [setR_self, setR_ne (fun h => hne h.symm)]
end
/-- 0 to the left of a lower part -/
theorem det_block : ∀ {k : Nat} (s : Nat) {M : Mat}, (∀ i j, k ≤ i → i < k + s → j < k → M i j = 0) → det (k + s) M = det k M * det s (fun i j => M (k + i) (k + j))
  | 0, s, M, _ => by
    rw [det, Int.one_mul, Nat.zero_add]
    exact det_congr fun i j _ _ => by rw [Nat.zero_add, Nat.zero_add]
  | k + 1, s, M, h => by
    rw [show k + 1 + s = (k + s) + 1 by omega, det, det, ← sm_mulr, show k + s + 1 = (k + 1) + s by omega, sm_split]
    have z : sm (fun i => sgn (k + 1 + i) * M (k + 1 + i) 0 * det (k + s) (mnr M (k + 1 + i))) s = 0 := sm_zero fun i hi => by
      rw [h _ 0 (by omega) (by omega) (by omega)]; grind
    rw [z, Int.add_zero]
    refine sm_congr fun r hr => ?_
    have := det_block (k := k) s (M := mnr M r) fun i j h1 h2 h3 => by
      unfold mnr
      rw [if_neg (by omega)]
      exact h _ _ (by omega) (by omega) (by omega)
    rw [this]
    have e : det s (fun i j => mnr M r (k + i) (k + j)) = det s (fun i j => M (k + 1 + i) (k + 1 + j)) := det_congr fun i j _ _ => by
      unfold mnr
      rw [if_neg (by omega), show k + i + 1 = k + 1 + i by omega, show k + j + 1 = k + 1 + j by omega]
    rw [e]; grind
/-- the unit rows -/
def idm : Mat := fun i j => if i = j then 1 else 0
theorem det_idm : ∀ n, det n idm = 1
  | 0 => rfl
  | n + 1 => by
    rw [show n + 1 = 1 + n by omega, det_block (k := 1) n]
    · have e : det n (fun i j => idm (1 + i) (1 + j)) = det n idm := det_congr fun i j _ _ => by
        unfold idm
        by_cases h : i = j
        · rw [if_pos h, if_pos (by omega)]
        · rw [if_neg h, if_neg (by omega)]
      rw [e, det_idm n]
      rfl
    · intro i j h1 h2 h3
      unfold idm; rw [if_neg (by omega)]
/-! ### products -/
def mul (n : Nat) (A B : Mat) : Mat := fun i j => sm (fun k => A i k * B k j) n
/-- how far rows are in order -/
def ord (f : Nat → Nat) : Nat → Nat
  | 0 => 0
  | n + 1 => ord f n + n * f n
theorem ord_congr {f h : Nat → Nat} : ∀ {n : Nat}, (∀ i, i < n → f i = h i) → ord f n = ord h n
  | 0, _ => rfl
  | n + 1, e => by rw [ord, ord, ord_congr fun i hi => e i (by omega), e n (by omega)]
theorem ord_le {f : Nat → Nat} {b : Nat} : ∀ {n : Nat}, (∀ i, i < n → f i ≤ b) → ord f n ≤ n * (n * b)
  | 0, _ => by simp [ord]
  | n + 1, h => by
    have h1 := ord_le (n := n) fun i hi => h i (by omega)
    have h2 := Nat.mul_le_mul_left n (h n (by omega))
    have e : (n + 1) * ((n + 1) * b) = n * (n * b) + n * b + n * b + b := by grind
    rw [ord, e]; omega
def swf (f : Nat → Nat) (r : Nat) : Nat → Nat := fun i => f (if i = r then r + 1 else if i = r + 1 then r else i)
theorem ord_swf {f : Nat → Nat} {r : Nat} (h : f (r + 1) < f r) : ∀ {n : Nat}, r + 1 < n → ord f n < ord (swf f r) n
  | 0, hn => by omega
  | n + 1, hn => by
    by_cases e : r + 1 = n
    · subst e
      rw [ord, ord, ord, ord]
      have e1 : ord (swf f r) r = ord f r := ord_congr fun i hi => by unfold swf; rw [if_neg (by omega), if_neg (by omega)]
      have e2 : swf f r r = f (r + 1) := by unfold swf; rw [if_pos rfl]
      have e3 : swf f r (r + 1) = f r := by unfold swf; rw [if_neg (by omega), if_pos rfl]
      rw [e1, e2, e3]
      have : (r + 1) * f (r + 1) = r * f (r + 1) + f (r + 1) := Nat.succ_mul ..
      have : (r + 1) * f r = r * f r + f r := Nat.succ_mul ..
      omega
    · have h1 := ord_swf h (n := n) (by omega)
      rw [ord, ord]
      have e1 : swf f r n = f n := by unfold swf; rw [if_neg (by omega), if_neg (by omega)]
      rw [e1]; omega
theorem up_id {f : Nat → Nat} {n : Nat} (hf : ∀ i, i < n → f i < n) (hu : ∀ i, i + 1 < n → f i < f (i + 1)) : ∀ i, i < n → f i = i := by
  have h1 : ∀ i, i < n → i ≤ f i := by
    intro i
    induction i with
    | zero => intro _; omega
    | succ i ih => intro hi; have := ih (by omega); have := hu i hi; omega
  have h2 : ∀ d i, i < n → n - i = d → f i ≤ i := by
    intro d
    induction d with
    | zero => intro i hi h; omega
    | succ d ih =>
      intro i hi h
      by_cases e : i + 1 < n
      · have := ih (i + 1) e (by omega); have := hu i e; omega
      · have := hf i hi; omega
  intro i hi
  have := h1 i hi
  have := h2 _ i hi rfl
  omega
theorem swp_comp (B : Mat) (f : Nat → Nat) (r : Nat) : swp (fun i => B (f i)) r (r + 1) = fun i => B (swf f r i) := by
  funext i; unfold swp swf; rfl
theorem Alt.pick {n : Nat} {D : Mat → Int} (A : Alt n D) (B : Mat) : ∀ (m : Nat) (f : Nat → Nat), (∀ i, i < n → f i < n) → n * (n * n) - ord f n ≤ m → D (fun i => B (f i)) = det n (fun i => idm (f i)) * D B := by
  intro m
  induction m with
  | zero =>
    intro f hf hm
    by_cases hu : ∀ i, i + 1 < n → f i < f (i + 1)
    · have e := up_id hf hu
      have e1 : D (fun i => B (f i)) = D B := A.cg fun i j hi hj => by rw [e i hi]
      have e2 : det n (fun i => idm (f i)) = det n idm := det_congr fun i j hi hj => by rw [e i hi]
      rw [e1, e2, det_idm, Int.one_mul]
    · obtain ⟨r, hr, hle⟩ : ∃ r, r + 1 < n ∧ f (r + 1) ≤ f r := by
        by_cases z : ∃ r, r + 1 < n ∧ f (r + 1) ≤ f r
        · exact z
        · exact (hu fun i hi => by
            by_cases z2 : f i < f (i + 1)
            · exact z2
            · exact (z ⟨i, hi, by omega⟩).elim).elim
      by_cases he : f (r + 1) = f r
      · rw [A.adj hr (fun j _ => by rw [he]), det_adj (M := fun i => idm (f i)) hr (fun j _ => by show idm (f r) j = idm (f (r + 1)) j; rw [he]), Int.zero_mul]
      · have h1 := ord_swf (f := f) (r := r) (by omega) hr
        have h2 : ord (swf f r) n ≤ n * (n * n) := ord_le fun i hi => by
          unfold swf
          split
          · exact Nat.le_of_lt (hf _ hr)
          · split
            · exact Nat.le_of_lt (hf _ (by omega))
            · exact Nat.le_of_lt (hf _ hi)
        omega
  | succ m ih =>
    intro f hf hm
    by_cases hu : ∀ i, i + 1 < n → f i < f (i + 1)
    · have e := up_id hf hu
      have e1 : D (fun i => B (f i)) = D B := A.cg fun i j hi hj => by rw [e i hi]
      have e2 : det n (fun i => idm (f i)) = det n idm := det_congr fun i j hi hj => by rw [e i hi]
      rw [e1, e2, det_idm, Int.one_mul]
    · obtain ⟨r, hr, hle⟩ : ∃ r, r + 1 < n ∧ f (r + 1) ≤ f r := by
        by_cases z : ∃ r, r + 1 < n ∧ f (r + 1) ≤ f r
        · exact z
        · exact (hu fun i hi => by
            by_cases z2 : f i < f (i + 1)
            · exact z2
            · exact (z ⟨i, hi, by omega⟩).elim).elim
      by_cases he : f (r + 1) = f r
      · rw [A.adj hr (fun j _ => by rw [he]), det_adj (M := fun i => idm (f i)) hr (fun j _ => by show idm (f r) j = idm (f (r + 1)) j; rw [he]), Int.zero_mul]
      · have h1 := ord_swf (f := f) (r := r) (by omega) hr
        have hf2 : ∀ i, i < n → swf f r i < n := fun i hi => by
          unfold swf
          split
          · exact hf _ hr
          · split
            · exact hf _ (by omega)
            · exact hf _ hi
        have := ih (swf f r) hf2 (by omega)
        rw [← swp_comp, ← swp_comp, A.swapA hr, (det_alt n).swapA hr] at this
        rw [Int.neg_mul] at this
        omega
theorem Alt.prod {n : Nat} {D : Mat → Int} (A : Alt n D) (X B : Mat) : D (mul n X B) = det n X * D B := by
  have key : ∀ t, t ≤ n → ∀ f : Nat → Nat, (∀ i, i < n → f i < n) → D (fun i => if i < n - t then B (f i) else mul n X B i) = det n (fun i => if i < n - t then idm (f i) else X i) * D B := by
    intro t
    induction t with
    | zero =>
      intro _ f hf
      have e1 : D (fun i => if i < n - 0 then B (f i) else mul n X B i) = D (fun i => B (f i)) := A.cg fun i j hi _ => by show (if _ then _ else _ : Nat → Int) j = _; rw [if_pos (by omega)]
      have e2 : det n (fun i => if i < n - 0 then idm (f i) else X i) = det n (fun i => idm (f i)) := det_congr fun i j hi _ => by show (if _ then _ else _ : Nat → Int) j = _; rw [if_pos (by omega)]
      rw [e1, e2]
      exact A.pick B _ f hf (Nat.le_refl _)
    | succ t ih =>
      intro ht f hf
      have hr : n - (t + 1) < n := by omega
      generalize hq : n - (t + 1) = r at *
      have hqt : n - t = r + 1 := by omega
      rw [hqt] at ih
      have e1 : (fun i => if i < r then B (f i) else mul n X B i) = setR (fun i => if i < r then B (f i) else mul n X B i) r (fun j => sm (fun s => X r s * B s j) n) := by
        funext i j; unfold setR
        by_cases h : i = r
        · subst h; rw [if_pos rfl, if_neg (by omega)]; rfl
        · rw [if_neg h]
      have e2 : det n (fun i => if i < r then idm (f i) else X i) = det n (setR (fun i => if i < r then idm (f i) else X i) r (fun j => sm (fun s => X r s * idm s j) n)) := det_congr fun i j hi hj => by
        unfold setR
        by_cases h : i = r
        · subst h
          rw [if_pos rfl, if_neg (by omega)]
          show X i j = sm (fun s => X i s * idm s j) n
          rw [sm_only hj]
          · unfold idm; rw [if_pos rfl, Int.mul_one]
          · intro s _ hne; unfold idm; rw [if_neg hne, Int.mul_zero]
        · rw [if_neg h]
      rw [e1, e2, A.sum hr, (det_alt n).sum hr, ← sm_mulr]
      refine sm_congr fun s hs => ?_
      have := ih (by omega) (fun i => if i = r then s else f i) fun i hi => by
        show (if i = r then s else f i) < n
        split
        · exact hs
        · exact hf i hi
      have f1 : D (fun i => if i < r + 1 then B (if i = r then s else f i) else mul n X B i) = D (setR (fun i => if i < r then B (f i) else mul n X B i) r (B s)) := A.cg fun i j _ _ => by
        unfold setR
        show (if i < r + 1 then B (if i = r then s else f i) else mul n X B i) j = if i = r then B s j else (if i < r then B (f i) else mul n X B i) j
        by_cases h : i = r
        · subst h; rw [if_pos rfl, if_pos (by omega), if_pos rfl]
        · rw [if_neg h]
          by_cases h2 : i < r
          · rw [if_pos h2, if_pos (by omega), if_neg h]
          · rw [if_neg h2, if_neg (by omega), if_neg h]
      have f2 : det n (fun i => if i < r + 1 then idm (if i = r then s else f i) else X i) = det n (setR (fun i => if i < r then idm (f i) else X i) r (idm s)) := det_congr fun i j _ _ => by
        unfold setR
        show (if i < r + 1 then idm (if i = r then s else f i) else X i) j = if i = r then idm s j else (if i < r then idm (f i) else X i) j
        by_cases h : i = r
        · subst h; rw [if_pos rfl, if_pos (by omega), if_pos rfl]
        · rw [if_neg h]
          by_cases h2 : i < r
          · rw [if_pos h2, if_pos (by omega), if_neg h]
          · rw [if_neg h2, if_neg (by omega), if_neg h]
      rw [f1, f2] at this
      rw [this]; grind
  have := key n (Nat.le_refl _) (fun i => i) (fun i hi => hi)
  have e1 : D (fun i => if i < n - n then B i else mul n X B i) = D (mul n X B) := A.cg fun i j _ _ => by show (if _ then _ else _ : Nat → Int) j = _; rw [if_neg (by omega)]
  have e2 : det n (fun i => if i < n - n then idm i else X i) = det n X := det_congr fun i j _ _ => by show (if _ then _ else _ : Nat → Int) j = _; rw [if_neg (by omega)]
  rw [← e1, ← e2]
  exact this
end LA
end

section
set_option linter.all false
/-! Determinants: columns, products with what is turned over, parts of a form. -/
namespace LA
def tr (M : Mat) : Mat := fun i j => M j i
theorem tri_zero (f : Nat → Nat → Int) : ∀ N, sm (fun k => sm (fun l => if l < k then f k l else -(f (l + 1) k)) N) (N + 1) = 0
  | 0 => rfl
  | N + 1 => by
    rw [sm]
    have e1 : sm (fun l => if l < N + 1 then f (N + 1) l else -(f (l + 1) (N + 1))) (N + 1) = sm (fun l => f (N + 1) l) (N + 1) := sm_congr fun l hl => if_pos hl
    have e2 : sm (fun k => sm (fun l => if l < k then f k l else -(f (l + 1) k)) (N + 1)) (N + 1) = sm (fun k => sm (fun l => if l < k then f k l else -(f (l + 1) k)) N + -1 * f (N + 1) k) (N + 1) := sm_congr fun k hk => by
      rw [sm, if_neg (by omega)]; omega
    rw [e1, e2, sm_add, tri_zero f N, sm_mul]
    show 0 + -1 * sm (fun l => f (N + 1) l) (N + 1) + sm (fun l => f (N + 1) l) (N + 1) = 0
    omega
theorem mnr_tr_set_gt (M : Mat) {r : Nat} (h : 0 < r) (k : Nat) (w : Vec) : mnr (tr (setR M r w)) k = tr (setR (tr (mnr (tr M) k)) (r - 1) fun i => w (if i < k then i else i + 1)) := by
  funext i j
  show (if j + 1 = r then w (if i < k then i else i + 1) else M (j + 1) (if i < k then i else i + 1)) = if j = r - 1 then w (if i < k then i else i + 1) else M (j + 1) (if i < k then i else i + 1)
  by_cases e : j + 1 = r
  · rw [if_pos e, if_pos (show j = r - 1 by omega)]
  · rw [if_neg e, if_neg (show ¬ j = r - 1 by omega)]
theorem dtr_lin : ∀ {n : Nat} (M : Mat) {r : Nat} (a b : Int) (u v : Vec), r < n → det n (tr (setR M r fun j => a * u j + b * v j)) = a * det n (tr (setR M r u)) + b * det n (tr (setR M r v))
  | 0, _, _, _, _, _, _, h => by omega
  | n + 1, M, r, a, b, u, v, hr => by
    rw [det, det, det, ← sm_mul, ← sm_mul, ← sm_add]
    refine sm_congr fun k hk => ?_
    by_cases h : r = 0
    · subst h
      have e : ∀ w, mnr (tr (setR M 0 w)) k = mnr (tr M) k := fun w => by
        funext i j
        show (if j + 1 = 0 then w (if i < k then i else i + 1) else M (j + 1) (if i < k then i else i + 1)) = M (j + 1) (if i < k then i else i + 1)
        rw [if_neg (by omega)]
      have e2 : ∀ w : Vec, tr (setR M 0 w) k 0 = w k := fun w => by
        show (if 0 = 0 then w k else M 0 k) = w k
        rw [if_pos rfl]
      simp only [e, e2]
      grind
    · have e2 : ∀ w : Vec, tr (setR M r w) k 0 = M 0 k := fun w => by
        show (if 0 = r then w k else M 0 k) = M 0 k
        rw [if_neg (by omega)]
      simp only [mnr_tr_set_gt M (show 0 < r by omega), e2]
      rw [dtr_lin (n := n) (tr (mnr (tr M) k)) (r := r - 1) a b (fun i => u (if i < k then i else i + 1)) (fun i => v (if i < k then i else i + 1)) (by omega)]
      grind
/-- two columns beside one another are equal -/
theorem dtr_adj : ∀ {n : Nat} {N : Mat} {r : Nat}, r + 1 < n → (∀ i, i < n → N i r = N i (r + 1)) → det n N = 0
  | 0, _, _, h, _ => by omega
  | n + 1, N, r + 1, hr, h => by
    rw [det]
    refine sm_zero fun k hk => ?_
    rw [dtr_adj (n := n) (N := mnr N k) (r := r) (by omega), Int.mul_zero]
    intro i hi
    unfold mnr
    split
    · exact h _ (by omega)
    · exact h _ (by omega)
  | n + 1, N, 0, hr, h => by
    obtain ⟨m, rfl⟩ : ∃ m, n = m + 1 := ⟨n - 1, by omega⟩
    rw [det]
    have := tri_zero (fun k l => sgn k * sgn l * N k 0 * N l 0 * det m (mnr (mnr N k) l)) (m + 1)
    rw [← this]
    refine sm_congr fun k hk => ?_
    rw [det, ← sm_mul]
    refine sm_congr fun l hl => ?_
    have e0 : mnr N k l 0 = N (if l < k then l else l + 1) 0 := by
      unfold mnr
      by_cases c : l < k
      · rw [if_pos c]; exact (h _ (by omega)).symm
      · rw [if_neg c]; exact (h _ (by omega)).symm
    rw [e0]
    by_cases c : l < k
    · rw [if_pos c, if_pos c]; grind
    · rw [if_neg c, if_neg c]
      have e1 : mnr (mnr N k) l = mnr (mnr N (l + 1)) k := by
        funext i j
        show N (if (if i < l then i else i + 1) < k then (if i < l then i else i + 1) else (if i < l then i else i + 1) + 1) (j + 1 + 1) = N (if (if i < k then i else i + 1) < l + 1 then (if i < k then i else i + 1) else (if i < k then i else i + 1) + 1) (j + 1 + 1)
        congr 1
        by_cases c1 : i < k
        · rw [if_pos (show i < l by omega), if_pos c1, if_pos (by omega)]
        · by_cases c2 : i < l
          · rw [if_pos c2, if_neg c1, if_pos (by omega)]
          · rw [if_neg c2, if_neg c1, if_neg (show ¬ i + 1 < k by omega), if_neg (by omega)]
      rw [e1, sgn_succ]; grind
theorem dtr_alt (n : Nat) : Alt n (fun M => det n (tr M)) := by
  refine ⟨fun h => det_congr fun i j hi hj => h j i hj hi, dtr_lin, fun {M r} hr h => ?_⟩
  exact dtr_adj hr fun i hi => h i hi
theorem det_tr (n : Nat) (M : Mat) : det n (tr M) = det n M := by
  have h := (dtr_alt n).prod M idm
  have e1 : det n (tr (mul n M idm)) = det n (tr M) := det_congr fun i j hi hj => by
    show sm (fun k => M j k * idm k i) n = M j i
    rw [sm_only hi]
    · unfold idm; rw [if_pos rfl, Int.mul_one]
    · intro k _ hne; unfold idm; rw [if_neg hne, Int.mul_zero]
  have e2 : det n (tr idm) = 1 := by
    rw [← det_idm n]
    exact det_congr fun i j _ _ => by
      show (if j = i then (1 : Int) else 0) = if i = j then 1 else 0
      by_cases c : i = j
      · rw [if_pos c, if_pos c.symm]
      · rw [if_neg c, if_neg fun h => c h.symm]
  have h : det n (tr (mul n M idm)) = det n M * det n (tr idm) := h
  rw [e1, e2, Int.mul_one] at h
  exact h
/-! ### forms that are nowhere below nought -/
theorem Psd.diag {n : Nat} {F : Mat} (h : Psd n F) {i : Nat} (hi : i < n) : 0 ≤ F i i := by
  have := h (unit i)
  rwa [qf_unit F hi] at this
theorem Psd.row0 {n : Nat} {F : Mat} (h : Psd n F) (hs : Sym n F) {i j : Nat} (hi : i < n) (hj : j < n) (h0 : F i i = 0) : F i j = 0 := by
  by_cases e : i = j
  · subst e; exact h0
  · by_cases z : F i j = 0
    · exact z
    · exfalso
      have hd := h.diag hj
      have h1 := h (fun t => unit j t + (-(sg (F i j)) * (F j j + 1)) * unit i t)
      rw [qf_two F hs hj hi _ (fun h => e h.symm), h0, ← hs i j hi hj] at h1
      have h2 := sg_abs z
      have h3 : F j j + 2 * (-(sg (F i j)) * (F j j + 1)) * F i j + (-(sg (F i j)) * (F j j + 1)) * (-(sg (F i j)) * (F j j + 1)) * 0 = F j j - 2 * (F j j + 1) * (sg (F i j) * F i j) := by grind
      rw [h3, h2] at h1
      have h4 : 1 ≤ ((F i j).natAbs : Int) := by omega
      have h5 : (F j j + 1) * 1 ≤ (F j j + 1) * ((F i j).natAbs : Int) := Int.mul_le_mul_of_nonneg_left h4 (by omega)
      have h6 : 2 * (F j j + 1) * ((F i j).natAbs : Int) = 2 * ((F j j + 1) * ((F i j).natAbs : Int)) := by grind
      omega
/-- the first place left out -/
def shf (F : Mat) : Mat := fun i j => F (i + 1) (j + 1)
/-- the step of elimination at the first place, without it -/
def red0 (F : Mat) : Mat := fun i j => F 0 0 * F (i + 1) (j + 1) - F (i + 1) 0 * F 0 (j + 1)
/-! ### parts -/
/-- the part of a form for some places -/
def prt (F : Mat) (S : List Nat) : Mat := fun a b => F (S.getD a 0) (S.getD b 0)
def mn (F : Mat) (S : List Nat) : Int := det S.length (prt F S)
/-- a vector for some places as one for all -/
def spr (S : List Nat) (y : Vec) : Vec := fun i => sm (fun a => if S.getD a 0 = i then y a else 0) S.length
def Asc (n : Nat) (S : List Nat) : Prop := S.Pairwise (· < ·) ∧ ∀ x ∈ S, x < n
theorem Asc.succ {n : Nat} {S : List Nat} (h : Asc n S) : Asc (n + 1) (S.map (· + 1)) := by
  refine ⟨List.pairwise_map.mpr (h.1.imp fun h => by omega), fun x hx => ?_⟩
  obtain ⟨y, hy, rfl⟩ := List.mem_map.mp hx
  have := h.2 y hy
  omega
end LA
end

section
set_option linter.all false
/-! The rank of a form that is nowhere below nought. -/
namespace LA
theorem Run.kn {n : Nat} {R0 R : Mat} {c0 c : Int} {l : List (Nat × Vec × Int)} (r : Run n R0 c0 l R c) : ∀ s ∈ l, s.1 < n := by
  induction r with
  | nil => intro s h; cases h
  | snoc r p st ih =>
    intro s h
    rcases List.mem_append.mp h with h | h
    · exact ih s h
    · simp only [List.mem_cons, List.not_mem_nil, or_false] at h
      rw [h]; exact st.kn
/-- the rank -/
def rkf : Nat → Mat → Nat
  | 0, _ => 0
  | n + 1, F => if 0 < F 0 0 then rkf n (red0 F) + 1 else rkf n (shf F)
end LA
end

section
set_option linter.all false
/-! Elimination without fractions. -/
namespace LA
theorem sm_pickr {n k r : Nat} (hk : k ≤ r) (hr : r < n) (Y : Vec) (c : Int) (f : Vec) : sm (fun s => (if s < k then -(Y s) else if s = r then c else 0) * f s) n = c * f r - sm (fun s => Y s * f s) k := by
  obtain ⟨t, rfl⟩ : ∃ t, n = k + t := ⟨n - k, by omega⟩
  rw [sm_split]
  have e1 : sm (fun s => (if s < k then -(Y s) else if s = r then c else 0) * f s) k = -1 * sm (fun s => Y s * f s) k := by
    rw [← sm_mul]
    exact sm_congr fun s hs => by rw [if_pos hs]; grind
  have e2 : sm (fun i => (if k + i < k then -(Y (k + i)) else if k + i = r then c else 0) * f (k + i)) t = c * f r := by
    rw [sm_only (k := r - k) (by omega)]
    · rw [if_neg (by omega), if_pos (by omega), show k + (r - k) = r by omega]
    · intro i _ hne
      rw [if_neg (by omega), if_neg (by omega), Int.zero_mul]
  rw [e1, e2]; omega
/-- rows times a number, less what is above -/
def repM (k t : Nat) (A : Mat) (Y : Nat → Vec) (c : Int) : Mat := fun i j => if k ≤ i ∧ i < k + t then c * A i j - sm (fun s => Y i s * A s j) k else A i j
theorem det_repM {n k : Nat} (A : Mat) (Y : Nat → Vec) (c : Int) : ∀ t, k + t ≤ n → det n (repM k t A Y c) = c ^ t * det n A
  | 0, _ => by
    rw [Int.pow_zero, Int.one_mul]
    exact det_congr fun i j _ _ => if_neg (by omega)
  | t + 1, h => by
    have ih := det_repM (n := n) (k := k) A Y c t (by omega)
    have e : det n (repM k (t + 1) A Y c) = det n (setR (repM k t A Y c) (k + t) fun j => sm (fun s => (if s < k then -(Y (k + t) s) else if s = k + t then c else 0) * repM k t A Y c s j) n) := det_congr fun i j _ _ => by
      by_cases h1 : i = k + t
      · subst h1
        rw [setR_self, sm_pickr (k := k) (r := k + t) (by omega) (by omega) (Y (k + t)) c (fun s => repM k t A Y c s j)]
        have e1 : sm (fun s => Y (k + t) s * repM k t A Y c s j) k = sm (fun s => Y (k + t) s * A s j) k := sm_congr fun s hs => by
          unfold repM
          rw [if_neg (by omega)]
        rw [e1]
        unfold repM
        rw [if_pos (by omega), if_neg (by omega)]
      · rw [setR_ne h1]
        unfold repM
        by_cases h2 : k ≤ i ∧ i < k + t
        · rw [if_pos h2, if_pos (by omega)]
        · rw [if_neg h2, if_neg (by omega)]
    rw [e, (det_alt n).comb (by omega), ih, if_neg (by omega), if_pos rfl, Int.pow_succ]; grind
theorem det_rep {n k : Nat} (A : Mat) (Y : Nat → Vec) (c : Int) (t : Nat) (h : k + t ≤ n) : det n (fun i j => if k ≤ i ∧ i < k + t then c * A i j - sm (fun s => Y i s * A s j) k else A i j) = c ^ t * det n A := det_repM A Y c t h
/-- where the elimination stands: k places are done -/
structure Bar (n : Nat) (A0 : Mat) (k : Nat) (R : Mat) (d s : Int) (A : Mat) : Prop where
  kn : k ≤ n
  d0 : d ≠ 0
  dk : det k A = d
  z : ∀ i j, k ≤ i → i < n → j < k → R i j = 0
  sg : s = 1 ∨ s = -1
  dt : s * det n A = det n A0
  lin : ∃ (e : Int) (Y : Nat → Vec), e ≠ 0 ∧ ∀ i j, k ≤ i → i < n → j < n → e * R i j = e * d * A i j - sm (fun t => Y i t * A t j) k
theorem Bar.start (n : Nat) (A0 : Mat) : Bar n A0 0 A0 1 1 A0 :=
  ⟨by omega, by decide, rfl, fun _ _ _ _ h => by omega, .inl rfl, Int.one_mul _, 1, fun _ _ => 0, by decide, fun i j _ _ _ => by simp [sm]⟩
theorem Bar.swap {n k q : Nat} {A0 R A : Mat} {d s : Int} (b : Bar n A0 k R d s A) (hk : k < q) (hq : q < n) : Bar n A0 k (swp R k q) d (-s) (swp A k q) := by
  have hlt : ∀ i, i < k → ∀ M : Mat, swp M k q i = M i := fun i hi M => by unfold swp; rw [if_neg (by omega), if_neg (by omega)]
  refine ⟨b.kn, b.d0, ?_, ?_, ?_, ?_, ?_⟩
  · rw [← b.dk]
    exact det_congr fun i j hi _ => by rw [hlt i hi]
  · intro i j h1 h2 h3
    unfold swp
    by_cases c1 : i = k
    · rw [if_pos c1]; exact b.z q j (by omega) hq h3
    · rw [if_neg c1]
      by_cases c2 : i = q
      · rw [if_pos c2]; exact b.z k j (by omega) (by omega) h3
      · rw [if_neg c2]; exact b.z i j h1 h2 h3
  · rcases b.sg with h | h
    · right; omega
    · left; omega
  · rw [(det_alt n).swap (by omega) hq (by omega), ← b.dt]; grind
  · obtain ⟨e, Y, he, h⟩ := b.lin
    refine ⟨e, fun i => Y (if i = k then q else if i = q then k else i), he, fun i j h1 h2 h3 => ?_⟩
    have e2 : sm (fun t => Y (if i = k then q else if i = q then k else i) t * swp A k q t j) k = sm (fun t => Y (if i = k then q else if i = q then k else i) t * A t j) k := sm_congr fun t ht => by rw [hlt t ht]
    rw [e2]
    show e * R (if i = k then q else if i = q then k else i) j = e * d * A (if i = k then q else if i = q then k else i) j - _
    refine h _ j ?_ ?_ h3
    · split
      · omega
      · split <;> omega
    · split
      · omega
      · split <;> omega
/-- nothing is left in a column -/
theorem Bar.none {n k : Nat} {A0 R A : Mat} {d s : Int} (b : Bar n A0 k R d s A) (hk : k < n) (h : ∀ i, k ≤ i → i < n → R i k = 0) : det n A0 = 0 := by
  obtain ⟨e, Y, he, hl⟩ := b.lin
  obtain ⟨t, rfl⟩ : ∃ t, n = k + (t + 1) := ⟨n - k - 1, by omega⟩
  have h1 := det_rep (n := k + (t + 1)) (k := k) A Y (e * d) (t + 1) (Nat.le_refl _)
  rw [det_block (k := k) (t + 1)] at h1
  · have h2 : det (t + 1) (fun i j => if k ≤ k + i ∧ k + i < k + (t + 1) then e * d * A (k + i) (k + j) - sm (fun s => Y (k + i) s * A s (k + j)) k else A (k + i) (k + j)) = 0 := by
      rw [det]
      refine sm_zero fun i hi => ?_
      have := hl (k + i) k (by omega) (by omega) hk
      rw [h (k + i) (by omega) (by omega), Int.mul_zero] at this
      rw [if_pos (by omega), Nat.add_zero, ← this]; grind
    rw [h2, Int.mul_zero] at h1
    have h3 : (e * d) ^ (t + 1) ≠ 0 := Int.pow_ne_zero (Int.mul_ne_zero he b.d0)
    have h4 : det (k + (t + 1)) A = 0 := by
      rcases Int.mul_eq_zero.mp h1.symm with z | z
      · exact (h3 z).elim
      · exact z
    rw [← b.dt, h4, Int.mul_zero]
  · intro i j h1 h2 h3
    rw [if_pos (by omega), ← hl i j h1 h2 (by omega), b.z i j h1 h2 h3, Int.mul_zero]
theorem det_one (M : Mat) : det 1 M = M 0 0 := by
  show sm _ 1 = _
  simp [sm, sgn, det]
theorem det_two (M : Mat) : det 2 M = M 0 0 * M 1 1 - M 1 0 * M 0 1 := by
  show sm _ 2 = _
  simp [sm, sgn, det, mnr]
  grind
/-- the pivot is the next part's determinant -/
theorem Bar.piv {n k : Nat} {A0 R A : Mat} {d s : Int} (b : Bar n A0 k R d s A) (hk : k < n) : det (k + 1) A = R k k := by
  obtain ⟨e, Y, he, hl⟩ := b.lin
  have h1 := det_rep (n := k + 1) (k := k) A Y (e * d) 1 (Nat.le_refl _)
  rw [det_block (k := k) 1, det_one] at h1
  · have e1 : det k (fun i j => if k ≤ i ∧ i < k + 1 then e * d * A i j - sm (fun s => Y i s * A s j) k else A i j) = d := by
      rw [← b.dk]
      exact det_congr fun i j hi _ => if_neg (by omega)
    rw [e1] at h1
    simp only [Nat.add_zero] at h1
    rw [if_pos (by omega), ← hl k k (by omega) hk hk, Int.pow_succ, Int.pow_zero, Int.one_mul] at h1
    have h2 : (d * e) * det (k + 1) A = (d * e) * R k k := by grind
    exact Int.eq_of_mul_eq_mul_left (Int.mul_ne_zero b.d0 he) h2
  · intro i j h1 h2 h3
    rw [if_pos (by omega), ← hl i j h1 (by omega) (by omega), b.z i j h1 (by omega) h3, Int.mul_zero]
/-- the division leaves nothing -/
theorem Bar.exact {n k : Nat} {A0 R A : Mat} {d s : Int} (b : Bar n A0 k R d s A) (hk : k < n) {i j : Nat} (hi : k < i) (hin : i < n) (hj : j < n) : ∃ m : Int, d * m = R k k * R i j - R i k * R k j := by
  obtain ⟨e, Y, he, hl⟩ := b.lin
  generalize hro : (fun a => if a < k then a else if a = k then k else i) = ro
  generalize hco : (fun a => if a < k then a else if a = k then k else j) = co
  have ro1 : ∀ a, a < k → ro a = a := fun a ha => by rw [← hro]; exact if_pos ha
  have ro2 : ro k = k := by rw [← hro]; show (if k < k then k else if k = k then k else i) = k; rw [if_neg (by omega), if_pos rfl]
  have ro3 : ro (k + 1) = i := by rw [← hro]; show (if k + 1 < k then k + 1 else if k + 1 = k then k else i) = i; rw [if_neg (by omega), if_neg (by omega)]
  have co1 : ∀ a, a < k → co a = a := fun a ha => by rw [← hco]; exact if_pos ha
  have co2 : co k = k := by rw [← hco]; show (if k < k then k else if k = k then k else j) = k; rw [if_neg (by omega), if_pos rfl]
  have co3 : co (k + 1) = j := by rw [← hco]; show (if k + 1 < k then k + 1 else if k + 1 = k then k else j) = j; rw [if_neg (by omega), if_neg (by omega)]
  have h1 := det_rep (n := k + 2) (k := k) (fun a c => A (ro a) (co c)) (fun a => Y (ro a)) (e * d) 2 (Nat.le_refl _)
  have hrow : ∀ a c, k ≤ a → a < k + 2 → co c < n → e * d * A (ro a) (co c) - sm (fun s => Y (ro a) s * A (ro s) (co c)) k = e * R (ro a) (co c) := by
    intro a c h2 h3 h4
    have e3 : sm (fun s => Y (ro a) s * A (ro s) (co c)) k = sm (fun s => Y (ro a) s * A s (co c)) k := sm_congr fun s hs => by rw [ro1 s hs]
    rw [e3]
    have : a = k ∨ a = k + 1 := by omega
    rcases this with rfl | rfl
    · rw [ro2]; exact (hl a (co c) (by omega) hk h4).symm
    · rw [ro3]; exact (hl i (co c) (by omega) hin h4).symm
  refine ⟨det (k + 2) (fun a c => A (ro a) (co c)), ?_⟩
  rw [det_block (k := k) 2, det_two] at h1
  · have e1 : det k (fun a c => if k ≤ a ∧ a < k + 2 then e * d * A (ro a) (co c) - sm (fun s => Y (ro a) s * A (ro s) (co c)) k else A (ro a) (co c)) = d := by
      rw [← b.dk]
      exact det_congr fun a c ha hc => by rw [if_neg (by omega), ro1 a ha, co1 c hc]
    rw [e1] at h1
    simp only [Nat.add_zero] at h1
    rw [if_pos (by omega), if_pos (by omega), if_pos (by omega), if_pos (by omega)] at h1
    rw [hrow k k (by omega) (by omega) (by rw [co2]; exact hk), hrow (k + 1) (k + 1) (by omega) (by omega) (by rw [co3]; exact hj), hrow (k + 1) k (by omega) (by omega) (by rw [co2]; exact hk), hrow k (k + 1) (by omega) (by omega) (by rw [co3]; exact hj), ro2, ro3, co2, co3] at h1
    have h2 : (d * e * e) * (d * det (k + 2) (fun a c => A (ro a) (co c))) = (d * e * e) * (R k k * R i j - R i k * R k j) := by
      have : (e * d) ^ 2 = e * d * (e * d) := by rw [Int.pow_succ, Int.pow_succ, Int.pow_zero, Int.one_mul]
      rw [this] at h1
      grind
    exact Int.eq_of_mul_eq_mul_left (Int.mul_ne_zero (Int.mul_ne_zero b.d0 he) he) h2
  · intro a c h2 h3 h4
    rw [if_pos (by omega)]
    have h5 : co c = c := co1 c h4
    rw [hrow a c h2 h3 (by omega), h5]
    have : a = k ∨ a = k + 1 := by omega
    rcases this with rfl | rfl
    · rw [ro2, b.z a c (by omega) hk h4, Int.mul_zero]
    · rw [ro3, b.z i c (by omega) hin h4, Int.mul_zero]
theorem Bar.step {n k : Nat} {A0 R R' A : Mat} {d s : Int} (b : Bar n A0 k R d s A) (hk : k < n) (hp : R k k ≠ 0) (hR : ∀ i j, k < i → i < n → j < n → R' i j = (R k k * R i j - R i k * R k j) / d) : Bar n A0 (k + 1) R' (R k k) s A := by
  have hex : ∀ i j, k < i → i < n → j < n → d * R' i j = R k k * R i j - R i k * R k j := fun i j h1 h2 h3 => by
    obtain ⟨m, hm⟩ := b.exact hk h1 h2 h3
    rw [hR i j h1 h2 h3, ← hm, Int.mul_ediv_cancel_left _ b.d0]
  refine ⟨hk, hp, b.piv hk, ?_, b.sg, b.dt, ?_⟩
  · intro i j h1 h2 h3
    have h4 := hex i j (by omega) h2 (by omega)
    have h5 : R k k * R i j - R i k * R k j = 0 := by
      by_cases c : j = k
      · subst c; grind
      · rw [b.z i j (by omega) h2 (by omega), b.z k j (by omega) hk (by omega)]; grind
    rw [h5] at h4
    rcases Int.mul_eq_zero.mp h4 with z | z
    · exact (b.d0 z).elim
    · exact z
  · obtain ⟨e, Y, he, hl⟩ := b.lin
    refine ⟨e * d, fun i t => if t = k then R i k * (e * d) else R k k * Y i t - R i k * Y k t, Int.mul_ne_zero he b.d0, fun i j h1 h2 h3 => ?_⟩
    have h4 := hex i j (by omega) h2 h3
    have h5 := hl i j (by omega) h2 h3
    have h6 := hl k j (by omega) hk h3
    rw [sm]
    have e1 : sm (fun t => (if t = k then R i k * (e * d) else R k k * Y i t - R i k * Y k t) * A t j) k = R k k * sm (fun t => Y i t * A t j) k - R i k * sm (fun t => Y k t * A t j) k := by
      rw [← sm_mul, ← sm_mul, ← sm_sub]
      exact sm_congr fun t ht => by rw [if_neg (by omega)]; grind
    rw [e1]
    show e * d * R' i j = e * d * R k k * A i j - (_ + (if k = k then R i k * (e * d) else _) * A k j)
    rw [if_pos rfl]
    grind
theorem Bar.done {n : Nat} {A0 R A : Mat} {d s : Int} (b : Bar n A0 n R d s A) : s * d = det n A0 := by
  rw [← b.dt, b.dk]
end LA
end

section
set_option linter.all false
/-! The determinant of a table hangs on no first thing. -/
namespace LA
/-- all things but one -/
def oth (f i : Nat) : Nat := if i < f then i else i + 1
def formF (D : Mat) (f : Nat) : Mat := fun i j => D f (oth f i) + D f (oth f j) - D (oth f i) (oth f j)
def ev (x : Nat) : Vec := fun c => if x = c + 1 then 1 else 0
/-- the change to another first thing, and back -/
def chP (f : Nat) : Mat := fun a c => ev (oth f a) c - ev f c
def chQ (f : Nat) : Mat := fun c a => ev (oth f a) c - (if oth f a = 0 then 1 else 0)
end LA
end

section
set_option Elab.async false
set_option linter.all false
open LA
namespace RA
/-- sums of fractions -/
def smq (f : Nat → Rat) : Nat → Rat
  | 0 => 0
  | n + 1 => smq f n + f n
theorem smq_congr {f g : Nat → Rat} : ∀ {n : Nat}, (∀ i, i < n → f i = g i) → smq f n = smq g n
  | 0, _ => rfl
  | n + 1, h => by rw [smq, smq, smq_congr fun i hi => h i (by omega), h n (by omega)]
theorem smq_mul (c : Rat) (f : Nat → Rat) : ∀ n, smq (fun i => c * f i) n = c * smq f n
  | 0 => by simp [smq]
  | n + 1 => by rw [smq, smq, smq_mul c f n]; grind
theorem smq_lin (a : Nat → Rat) (f g : Nat → Rat) (c : Rat) (n : Nat) : smq (fun j => a j * (f j - g j * c)) n = smq (fun j => a j * f j) n - smq (fun j => a j * g j) n * c := by
  induction n with
  | zero => simp only [smq]; grind
  | succ n ih => rw [smq, smq, smq, ih]; grind
theorem smq_int (f : Nat → Int) : ∀ n, smq (fun i => ((f i : Int) : Rat)) n = ((sm f n : Int) : Rat)
  | 0 => by simp [smq, sm]
  | n + 1 => by rw [smq, sm, smq_int f n, Rat.intCast_add]
theorem mul_den (x : Rat) : x * (x.den : Rat) = (x.num : Rat) := by
  have h := Rat.mkRat_self x
  rw [Rat.mkRat_eq_div] at h
  have h2 : (x.den : Rat) ≠ 0 := fun e => x.den_nz (Rat.natCast_inj.mp (e.trans rfl))
  grind
/-- a common denominator -/
theorem common (f : Nat → Rat) : ∀ n, ∃ q : Int, q ≠ 0 ∧ ∃ y : Nat → Int, ∀ i, i < n → (q : Rat) * f i = y i
  | 0 => ⟨1, by decide, fun _ => 0, fun i hi => by omega⟩
  | n + 1 => by
    obtain ⟨q, hq, y, hy⟩ := common f n
    have hd : ((f n).den : Int) ≠ 0 := by have := (f n).den_nz; omega
    refine ⟨q * (f n).den, Int.mul_ne_zero hq hd, fun i => if i = n then q * (f n).num else y i * (f n).den, fun i hi => ?_⟩
    by_cases e : i = n
    · subst e
      show ((q * ((f i).den : Int) : Int) : Rat) * f i = (((if i = i then q * (f i).num else y i * (f i).den : Int)) : Rat)
      rw [if_pos rfl, Rat.intCast_mul, Rat.intCast_mul]
      have h := mul_den (f i)
      have h2 : (((f i).den : Int) : Rat) = ((f i).den : Rat) := rfl
      rw [h2, Rat.mul_assoc, Rat.mul_comm _ (f i), h]
    · show ((q * ((f n).den : Int) : Int) : Rat) * f i = (((if i = n then q * (f n).num else y i * (f n).den : Int)) : Rat)
      rw [if_neg e, Rat.intCast_mul, Rat.intCast_mul]
      have := hy i (by omega)
      rw [← this]
      grind
/-- how far an elimination has come: k rows in place, their columns c, the rest less what they take away -/
structure GJ (m w k : Nat) (A : Nat → Nat → Int) (s c : Nat → Nat) (R : Nat → Nat → Rat) : Prop where
  le : k ≤ m
  sl : ∀ i, i < m → s i < m
  sj : ∀ r, r < m → ∃ i, i < m ∧ s i = r
  top : ∀ i, i < k → ∀ q, q ≤ w → smq (fun j => (A (s i) (c j) : Rat) * R j q) k = (A (s i) q : Rat)
  bot : ∀ i, k ≤ i → i < m → ∀ q, q ≤ w → R i q = (A (s i) q : Rat) - smq (fun j => (A (s i) (c j) : Rat) * R j q) k
  det : det k (fun i j => A (s i) (c j)) ≠ 0
  cw : ∀ j, j < k → c j ≤ w
theorem GJ.start (m w : Nat) (A : Nat → Nat → Int) : GJ m w 0 A id (fun _ => 0) (fun i q => (A i q : Rat)) := by
  refine ⟨by omega, fun i hi => hi, fun r hr => ⟨r, hr, rfl⟩, fun i hi => by omega, fun i _ _ q _ => ?_, ?_, fun j hj => by omega⟩
  · show (A i q : Rat) = (A i q : Rat) - 0
    grind
  · show (1 : Int) ≠ 0
    decide
/-- two places changed -/
def sw (k p : Nat) (i : Nat) : Nat := if i = k then p else if i = p then k else i
theorem GJ.swap {m w k p : Nat} {A : Nat → Nat → Int} {s c : Nat → Nat} {R : Nat → Nat → Rat} (h : GJ m w k A s c R) (hk : k ≤ p) (hp : p < m) : GJ m w k A (fun i => s (sw k p i)) c (fun i => R (sw k p i)) := by
  have e : ∀ i, i < k → sw k p i = i := fun i hi => by unfold sw; rw [if_neg (by omega), if_neg (by omega)]
  have hl : ∀ i, i < m → sw k p i < m := fun i hi => by
    unfold sw
    by_cases h1 : i = k
    · rw [if_pos h1]; omega
    · rw [if_neg h1]
      by_cases h2 : i = p
      · rw [if_pos h2]; omega
      · rw [if_neg h2]; omega
  refine ⟨h.le, fun i hi => h.sl _ (hl i hi), fun r hr => ?_, fun i hi q hq => ?_, fun i hi hm q hq => ?_, ?_, h.cw⟩
  · obtain ⟨i, hi, e2⟩ := h.sj r hr
    refine ⟨sw k p i, hl i hi, ?_⟩
    have : sw k p (sw k p i) = i := by
      unfold sw
      by_cases h1 : i = k
      · rw [if_pos h1]
        by_cases h2 : p = k
        · rw [if_pos h2]; omega
        · rw [if_neg h2, if_pos rfl]; omega
      · rw [if_neg h1]
        by_cases h2 : i = p
        · rw [if_pos h2, if_pos rfl]; omega
        · rw [if_neg h2, if_neg h1, if_neg h2]
    show s (sw k p (sw k p i)) = r
    rw [this]; exact e2
  · rw [e i hi, ← h.top i hi q hq]
    exact smq_congr fun j hj => by rw [e j hj]
  · have hs : k ≤ sw k p i ∧ sw k p i < m := by
      unfold sw
      by_cases h1 : i = k
      · rw [if_pos h1]; omega
      · rw [if_neg h1]
        by_cases h2 : i = p
        · rw [if_pos h2]; omega
        · rw [if_neg h2]; omega
    rw [h.bot _ hs.1 hs.2 q hq]
    congr 1
    exact smq_congr fun j hj => by rw [e j hj]
  · rw [det_congr (N := fun i j => A (s i) (c j)) fun i j hi hj => by rw [e i hi]]
    exact h.det
/-- one column cleared -/
def clr (k p : Nat) (R : Nat → Nat → Rat) : Nat → Nat → Rat := fun i q => if i = k then R k q / R k p else R i q - R i p * (R k q / R k p)
theorem GJ.cramer {m w k : Nat} {A : Nat → Nat → Int} {s c : Nat → Nat} {R : Nat → Nat → Rat} (h : GJ m w k A s c R) {j q : Nat} (hj : j < k) (hq : q ≤ w) :
    ((LA.det k (fun i j => A (s i) (c j)) : Int) : Rat) * R j q = ((LA.det k (setR (tr fun i j => A (s i) (c j)) j fun i => A (s i) q) : Int) : Rat) := by
  obtain ⟨z, hz, y, hy⟩ := common (fun j => R j q) k
  have hr : ∀ i, i < k → sm (fun t => y t * A (s i) (c t)) k = z * A (s i) q := fun i hi => by
    have h1 := h.top i hi q hq
    have h2 : ((sm (fun t => y t * A (s i) (c t)) k : Int) : Rat) = ((z * A (s i) q : Int) : Rat) := by
      rw [← smq_int, Rat.intCast_mul, ← h1, ← smq_mul]
      exact smq_congr fun t ht => by rw [Rat.intCast_mul, ← hy t ht]; grind
    exact Rat.intCast_inj.mp h2
  have hc := (det_alt k).comb hj (tr fun i j => A (s i) (c j)) y
  have he : LA.det k (setR (tr fun i j => A (s i) (c j)) j fun i => sm (fun t => y t * (tr fun i j => A (s i) (c j)) t i) k) = z * LA.det k (setR (tr fun i j => A (s i) (c j)) j fun i => A (s i) q) := by
    rw [← (det_alt k).smul hj]
    refine det_congr fun a b ha hb => ?_
    unfold setR
    by_cases e : a = j
    · rw [if_pos e, if_pos e]; exact hr b hb
    · rw [if_neg e, if_neg e]
  have hf : z * LA.det k (setR (tr fun i j => A (s i) (c j)) j fun i => A (s i) q) = y j * LA.det k (fun i j => A (s i) (c j)) := by
    rw [← he, ← det_tr k (fun i j => A (s i) (c j))]
    exact hc
  have hg := congrArg (fun x : Int => (x : Rat)) hf
  have hz' : ((z : Int) : Rat) ≠ 0 := fun e => hz (Rat.intCast_inj.mp (e.trans rfl))
  have hyj := hy j hj
  simp only [Rat.intCast_mul] at hg
  rw [← hyj] at hg
  grind
theorem sm_cast (f : Nat → Int) (n : Nat) : ((sm f n : Int) : Rat) = smq (fun i => ((f i : Int) : Rat)) n := (smq_int f n).symm
theorem GJ.next {m w k p : Nat} {A : Nat → Nat → Int} {s c : Nat → Nat} {R : Nat → Nat → Rat} (h : GJ m w k A s c R) (hk : k < m) (hp : p ≤ w) :
    ((LA.det (k + 1) (fun i j => A (s i) (if j = k then p else c j)) : Int) : Rat) = ((LA.det k (fun i j => A (s i) (c j)) : Int) : Rat) * R k p := by
  have hN : ∀ j, j < k → ((LA.det k (fun i j => A (s i) (c j)) : Int) : Rat) * R j p = ((LA.det k (setR (tr fun i j => A (s i) (c j)) j fun i => A (s i) p) : Int) : Rat) := fun j hj => h.cramer hj hp
  have hZ0 : ((LA.det k (fun i j => A (s i) (c j)) : Int) : Rat) ≠ 0 := fun e => h.det (Rat.intCast_inj.mp (e.trans rfl))
  have hZt : LA.det k (tr fun i j => A (s i) (c j)) = LA.det k (fun i j => A (s i) (c j)) := det_tr k _
  generalize hZ : LA.det k (fun i j => A (s i) (c j)) = Z at hN hZ0 hZt
  generalize hNN : (fun j => LA.det k (setR (tr fun i j => A (s i) (c j)) j fun i => A (s i) p)) = N at hN
  have hN : ∀ j, j < k → (Z : Rat) * R j p = ((N j : Int) : Rat) := fun j hj => by rw [hN j hj, ← hNN]
  have hsum : ∀ i, ((sm (fun t => N t * A (s i) (c t)) k : Int) : Rat) = (Z : Rat) * smq (fun t => (A (s i) (c t) : Rat) * R t p) k := fun i => by
    rw [sm_cast, ← smq_mul]
    exact smq_congr fun t ht => by rw [Rat.intCast_mul, ← hN t ht]; grind
  have hrep := det_rep (n := k + 1) (k := k) (tr fun i j => A (s i) (if j = k then p else c j)) (fun _ => N) Z 1 (by omega)
  have hsm : ∀ j, sm (fun t => N t * (tr fun i j => A (s i) (if j = k then p else c j)) t j) k = sm (fun t => N t * A (s j) (c t)) k := fun j => sm_congr fun t ht => by
    show N t * A (s j) (if t = k then p else c t) = _
    rw [if_neg (by omega)]
  have hz : ∀ i j, k ≤ i → i < k + 1 → j < k → (fun i j => if k ≤ i ∧ i < k + 1 then Z * (tr fun i j => A (s i) (if j = k then p else c j)) i j - sm (fun t => N t * (tr fun i j => A (s i) (if j = k then p else c j)) t j) k else (tr fun i j => A (s i) (if j = k then p else c j)) i j) i j = 0 := fun i j hi hi2 hj => by
    obtain rfl : i = k := by omega
    show (if i ≤ i ∧ i < i + 1 then Z * (A (s j) (if i = i then p else c i)) - sm (fun t => N t * (tr fun i_1 j => A (s i_1) (if j = i then p else c j)) t j) i else _) = 0
    rw [if_pos ⟨Nat.le_refl _, by omega⟩, if_pos rfl, hsm]
    refine Rat.intCast_inj.mp ?_
    rw [Rat.intCast_sub, Rat.intCast_mul, hsum, h.top j hj p hp]
    grind
  have hblk := det_block (k := k) 1 hz
  rw [hrep, det_one] at hblk
  have e1 : LA.det k (fun i j => if k ≤ i ∧ i < k + 1 then Z * (tr fun i j => A (s i) (if j = k then p else c j)) i j - sm (fun t => N t * (tr fun i j => A (s i) (if j = k then p else c j)) t j) k else (tr fun i j => A (s i) (if j = k then p else c j)) i j) = Z := by
    rw [← hZt]
    refine det_congr fun i j hi hj => ?_
    rw [if_neg (by omega)]
    show A (s j) (if i = k then p else c i) = A (s j) (c i)
    rw [if_neg (by omega)]
  rw [e1, det_tr] at hblk
  have e2 : (if k ≤ k + 0 ∧ k + 0 < k + 1 then Z * (tr fun i j => A (s i) (if j = k then p else c j)) (k + 0) (k + 0) - sm (fun t => N t * (tr fun i j => A (s i) (if j = k then p else c j)) t (k + 0)) k else (tr fun i j => A (s i) (if j = k then p else c j)) (k + 0) (k + 0)) = Z * A (s k) p - sm (fun t => N t * A (s k) (c t)) k := by
    rw [if_pos ⟨by omega, by omega⟩, hsm]
    show Z * A (s k) (if k = k then p else c k) - _ = _
    rw [if_pos rfl]
    rfl
  rw [e2] at hblk
  have hb := h.bot k (Nat.le_refl _) hk p hp
  have hc := congrArg (fun x : Int => (x : Rat)) hblk
  simp only [Rat.intCast_mul, Rat.intCast_sub, hsum, Int.pow_succ, Int.pow_zero, Int.one_mul] at hc
  grind
theorem GJ.clear {m w k p : Nat} {A : Nat → Nat → Int} {s c : Nat → Nat} {R : Nat → Nat → Rat} (h : GJ m w k A s c R) (hk : k < m) (hp : p ≤ w) (h0 : R k p ≠ 0) :
    GJ m w (k + 1) A s (fun j => if j = k then p else c j) (clr k p R) := by
  have hck : (fun j => if j = k then p else c j) k = p := if_pos rfl
  have hcj : ∀ j, j < k → (fun j => if j = k then p else c j) j = c j := fun j hj => if_neg (by omega)
  have hb := h.bot k (Nat.le_refl _) hk
  have hsum : ∀ i q, smq (fun j => (A (s i) ((fun j => if j = k then p else c j) j) : Rat) * clr k p R j q) (k + 1) = smq (fun j => (A (s i) (c j) : Rat) * R j q) k - smq (fun j => (A (s i) (c j) : Rat) * R j p) k * (R k q / R k p) + (A (s i) p : Rat) * (R k q / R k p) := fun i q => by
    rw [smq, ← smq_lin]
    have e1 : clr k p R k q = R k q / R k p := if_pos rfl
    rw [e1, hck]
    congr 1
    refine smq_congr fun j hj => ?_
    rw [hcj j hj]
    have e2 : clr k p R j q = R j q - R j p * (R k q / R k p) := if_neg (by omega)
    rw [e2]
  refine ⟨by omega, h.sl, h.sj, fun i hi q hq => ?_, fun i hi hm q hq => ?_, ?_, fun j hj => ?_⟩
  · rw [hsum]
    by_cases e : i = k
    · subst e
      have h1 := hb q hq
      have h2 := hb p hp
      grind
    · rw [h.top i (by omega) q hq, h.top i (by omega) p hp]
      grind
  · rw [hsum]
    have e2 : clr k p R i q = R i q - R i p * (R k q / R k p) := if_neg (by omega)
    rw [e2]
    have h1 := h.bot i (by omega) hm q hq
    have h2 := h.bot i (by omega) hm p hp
    grind
  · intro e
    have h1 := h.next hk hp
    rw [show LA.det (k + 1) (fun i j => A (s i) (if j = k then p else c j)) = 0 from e] at h1
    have hZ0 : ((LA.det k (fun i j => A (s i) (c j)) : Int) : Rat) ≠ 0 := fun e => h.det (Rat.intCast_inj.mp (e.trans rfl))
    have h2 : ((0 : Int) : Rat) = 0 := rfl
    rw [h2] at h1
    grind
  · by_cases e : j = k
    · show (if j = k then p else c j) ≤ w
      rw [if_pos e]; exact hp
    · show (if j = k then p else c j) ≤ w
      rw [if_neg e]; exact h.cw j (by omega)
theorem sm_bt4 {f : Nat → Int} {b : Nat} : ∀ {n : Nat}, n ≤ 16 → (∀ i, i < n → bt b (f i)) → bt (b + 4) (sm f n) := by
  have gen : ∀ n, (∀ i, i < n → bt b (f i)) → (sm f n).natAbs ≤ n * 2 ^ b := by
    intro n
    induction n with
    | zero => intro _; simp [sm]
    | succ n ih =>
      intro h
      have h1 := ih fun i hi => h i (by omega)
      have h2 : (f n).natAbs < 2 ^ b := h n (by omega)
      have h3 := Int.natAbs_add_le (sm f n) (f n)
      rw [sm, Nat.add_mul]
      omega
  intro n hn h
  by_cases h0 : n = 0
  · subst h0
    exact Nat.two_pow_pos _
  have h1 := h 0 (by omega)
  have h2 : (sm f n).natAbs < n * 2 ^ b := by
    obtain ⟨k, rfl⟩ : ∃ k, n = k + 1 := ⟨n - 1, by omega⟩
    have := gen k fun i hi => h i (by omega)
    have h2 : (f k).natAbs < 2 ^ b := h k (by omega)
    have h3 := Int.natAbs_add_le (sm f k) (f k)
    rw [sm, Nat.add_mul]
    omega
  have h3 : n * 2 ^ b ≤ 16 * 2 ^ b := Nat.mul_le_mul_right _ hn
  show (sm f n).natAbs < 2 ^ (b + 4)
  rw [Nat.pow_add]
  omega
theorem det_bt4 {b : Nat} : ∀ {m : Nat} {M : Mat}, m ≤ 16 → (∀ i j, i < m → j < m → bt b (M i j)) → bt (m * (b + 4) + 1) (LA.det m M)
  | 0, M, _, _ => by show (1 : Int).natAbs < 2 ^ (0 * (b + 4) + 1); rw [Nat.zero_mul]; decide
  | m + 1, M, hm, h => by
    rw [LA.det]
    have : ∀ k, k < m + 1 → bt (m * (b + 4) + 1 + b) (sgn k * M k 0 * LA.det m (mnr M k)) := fun k hk => by
      have h1 : bt b (sgn k * M k 0) := (h k 0 hk (by omega)).le (by
        rw [Int.natAbs_mul]
        have : (sgn k).natAbs = 1 := by unfold sgn; split <;> rfl
        rw [this, Nat.one_mul]; exact Nat.le_refl _)
      have h2 : bt (m * (b + 4) + 1) (LA.det m (mnr M k)) := det_bt4 (by omega) fun i j hi hj => by
        unfold mnr
        split
        · exact h _ _ (by omega) (by omega)
        · exact h _ _ (by omega) (by omega)
      exact (h1.mul h2).mono (by omega)
    refine (sm_bt4 hm this).mono ?_
    rw [Nat.add_mul]; omega
/-- what a whole multiple tells of a fraction's parts -/
theorem parts {x : Rat} {Z N : Int} (hZ : Z ≠ 0) (h : (Z : Rat) * x = (N : Rat)) : x.den ≤ Z.natAbs ∧ x.num.natAbs ≤ N.natAbs := by
  have h1 : Z * x.num = N * x.den := by
    refine Rat.intCast_inj.mp ?_
    have := mul_den x
    rw [Rat.intCast_mul, Rat.intCast_mul, ← h, ← this]
    have h2 : ((x.den : Int) : Rat) = (x.den : Rat) := rfl
    rw [h2]
    grind
  have h2 : Z.natAbs * x.num.natAbs = N.natAbs * x.den := by
    have := congrArg Int.natAbs h1
    rw [Int.natAbs_mul, Int.natAbs_mul] at this
    exact this
  have hd : x.den ∣ Z.natAbs := by
    have : x.den ∣ Z.natAbs * x.num.natAbs := by rw [h2]; exact Nat.dvd_mul_left ..
    exact Nat.Coprime.dvd_of_dvd_mul_right (Nat.Coprime.symm x.reduced) this
  have hz : 0 < Z.natAbs := by omega
  refine ⟨Nat.le_of_dvd hz hd, ?_⟩
  obtain ⟨t, ht⟩ := hd
  have h0 : 0 < x.den := by have := x.den_nz; omega
  rw [ht, Nat.mul_assoc] at h2
  have h3 : t * x.num.natAbs = N.natAbs := Nat.eq_of_mul_eq_mul_left h0 (by rw [h2, Nat.mul_comm])
  have ht0 : 0 < t := Nat.pos_of_ne_zero fun e => by rw [e, Nat.mul_zero] at ht; omega
  rw [← h3]
  exact Nat.le_mul_of_pos_left _ ht0
/-- a fraction of few bits -/
def bq (b : Nat) (x : Rat) : Prop := bt b x.num ∧ bt b (x.den : Int)
theorem bq_of {x : Rat} {Z N : Int} {b : Nat} (hZ : Z ≠ 0) (h : (Z : Rat) * x = (N : Rat)) (h1 : bt b Z) (h2 : bt b N) : bq b x := by
  obtain ⟨a, c⟩ := parts hZ h
  exact ⟨h2.le c, h1.le (by show ((x.den : Int)).natAbs ≤ _; omega)⟩
theorem GJ.bits {m w k b : Nat} {A : Nat → Nat → Int} {s c : Nat → Nat} {R : Nat → Nat → Rat} (h : GJ m w k A s c R) (hm : m ≤ 15) (hA : ∀ i q, i < m → q ≤ w → bt b (A i q)) {i q : Nat} (hi : i < m) (hq : q ≤ w) : bq (16 * (b + 5)) (R i q) := by
  have hk := h.le
  have hmul : k * (b + 4) ≤ 15 * (b + 4) := Nat.mul_le_mul_right _ (by omega)
  have hZb : bt (k * (b + 4) + 1) (LA.det k (fun i j => A (s i) (c j))) := det_bt4 (by omega) fun i j hi hj => hA _ _ (h.sl i (by omega)) (h.cw j hj)
  have hNb : ∀ j, bt (k * (b + 4) + 1) (LA.det k (setR (tr fun i j => A (s i) (c j)) j fun i => A (s i) q)) := fun j => det_bt4 (by omega) fun x y hx hy => by
    unfold setR
    by_cases e : x = j
    · rw [if_pos e]; exact hA _ _ (h.sl y (by omega)) hq
    · rw [if_neg e]; exact hA _ _ (h.sl y (by omega)) (h.cw x hx)
  by_cases hik : i < k
  · exact bq_of h.det (h.cramer hik hq) (hZb.mono (by omega)) ((hNb i).mono (by omega))
  · have hN := fun j (hj : j < k) => h.cramer hj hq
    have hd := h.det
    generalize LA.det k (fun i j => A (s i) (c j)) = Z at hZb hN hd
    generalize hNN : (fun j => LA.det k (setR (tr fun i j => A (s i) (c j)) j fun i => A (s i) q)) = N at hN
    have hN : ∀ j, j < k → (Z : Rat) * R j q = ((N j : Int) : Rat) := fun j hj => by rw [hN j hj, ← hNN]
    have hNb : ∀ j, bt (k * (b + 4) + 1) (N j) := fun j => by rw [← hNN]; exact hNb j
    have he : (Z : Rat) * R i q = ((Z * A (s i) q - sm (fun j => A (s i) (c j) * N j) k : Int) : Rat) := by
      rw [h.bot i (by omega) hi q hq, Rat.intCast_sub, Rat.intCast_mul, sm_cast]
      have : smq (fun j => ((A (s i) (c j) * N j : Int) : Rat)) k = (Z : Rat) * smq (fun j => (A (s i) (c j) : Rat) * R j q) k := by
        rw [← smq_mul]
        exact smq_congr fun j hj => by rw [Rat.intCast_mul, ← hN j hj]; grind
      rw [this]
      grind
    have hAb := hA _ _ (h.sl i hi) hq
    have hs : bt (b + (k * (b + 4) + 1) + 4) (sm (fun j => A (s i) (c j) * N j) k) := sm_bt4 (by omega) fun j hj => (hA _ _ (h.sl i hi) (h.cw j hj)).mul (hNb j)
    refine bq_of hd he (hZb.mono (by omega)) ?_
    exact (((hZb.mul hAb).mono (by omega) : bt (b + (k * (b + 4) + 1) + 4) _).sub hs).mono (by omega)
/-- the one whole number that makes all rows' ends whole -/
theorem GJ.whole {m w k b : Nat} {A : Nat → Nat → Int} {s c : Nat → Nat} {R : Nat → Nat → Rat} (h : GJ m w k A s c R) (hm : m ≤ 15) (hA : ∀ i q, i < m → q ≤ w → bt b (A i q)) : ∃ Z : Int, Z ≠ 0 ∧ ∀ j, j < k → ∃ N : Int, (Z : Rat) * R j w = (N : Rat) ∧ bt (16 * (b + 5)) N := by
  have hk := h.le
  have hmul : k * (b + 4) ≤ 15 * (b + 4) := Nat.mul_le_mul_right _ (by omega)
  refine ⟨_, h.det, fun j hj => ⟨_, h.cramer hj (Nat.le_refl _), ?_⟩⟩
  refine (det_bt4 (b := b) (by omega) fun x y hx hy => ?_).mono (by omega)
  unfold setR
  by_cases e : x = j
  · rw [if_pos e]; exact hA _ _ (h.sl y (by omega)) (Nat.le_refl _)
  · rw [if_neg e]; exact hA _ _ (h.sl y (by omega)) (h.cw x hx)
end RA
end

section
set_option Elab.async false
set_option linter.all false
set_option maxRecDepth 100000
set_option maxHeartbeats 4000000
open Ev PySem
local macro_rules
  | `(tactic| simp_all! [$ls,*]) => `(tactic| simp -implicitDefEqProofs -failIfUnchanged only [qlook_int, qlook_bl, qlook_non, qlook_str, qlook_tup, qlook_lst, qlook_ins, qlook_ref, qlook_fn, qlook_cls, qlook_scr, qlook_own, qlook_bor, qhand_int, qhand_bl, qhand_non, qhand_str, qhand_tup, qhand_lst, qhand_ins, qhand_ref, qhand_fn, qhand_cls, qhand_scr, qhand_own, qhand_bor, qarg_int, qarg_bl, qarg_non, qarg_str, qarg_tup, qarg_lst, qarg_ins, qarg_ref, qarg_fn, qarg_cls, qarg_scr, qarg_own, qarg_bor, qkeep_int, qkeep_bl, qkeep_non, qkeep_str, qkeep_tup, qkeep_lst, qkeep_ins, qkeep_ref, qkeep_fn, qkeep_cls, qkeep_scr, qkeep_own, qback_int, qback_bl, qback_non, qback_str, qback_tup, qback_lst, qback_ins, qback_ref, qback_fn, qback_cls, qback_scr, qback_own, qput_int, qput_bl, qput_non, qput_str, qput_tup, qput_lst, qput_ins, qput_ref, qput_fn, qput_cls, qput_scr, qput_ownT, qput_ownF, qtg_v, qtg_tup, qtgs_nil, qtgs_cons, qtgI_v, qtgI_tup, qtgIs_nil, qtgIs_cons, qwipe_nil, qwipe_cons, qseqA_tup, qseqA_lst, qseqA_own, qseqA_bor, qseqA_scr, qseqA_refL, qseqL_lst, qseqL_own, qseqL_bor, qseqL_ref, qsrc_tup, qsrc_lst, qsrc_own, qsrc_scr, qsrc_borT, qsrc_borF, qadd_int, qsub_int, qmul_int, qpow_int, qfdiv_int, qmod_int, qneg_int, qcmp_Lt, qcmp_LtE, qcmp_Gt, qcmp_GtE, qeqA_int, qcmp_EqX, qcmp_NeX, qcmp_isN, qcmp_isnN, qisNon_int, qisNon_bl, qisNon_non, qisNon_str, qisNon_tup, qisNon_lst, qisNon_ins, qisNon_ref, qisNon_fn, qisNon_cls, qisNon_scr, qtru_bl, qtru_int, qtru_non, qtru_tup, qtru_lst, qtru_own, qtru_bor, qidx_tup, qlen_tup, qidx_lst, qlen_lst, qidx_own, qlen_own, qidx_bor, qlen_bor, qidx_scr, qlen_scr, qidx_ref, qabs, qall_own, qany_own, qbint, qmax2, qmin2, qtuple_tup, qlist_tup, qtuple_lst, qlist_lst, qtuple_own, qlist_own, qtuple_bor, qlist_bor, qtuple_scr, qlist_scr, qis_int_int, qis_int_bool, qis_int_str, qis_int_tup, qis_int_lst, qis_bl_int, qis_bl_bool, qis_bl_str, qis_bl_tup, qis_bl_lst, qis_non_int, qis_non_bool, qis_non_str, qis_non_tup, qis_non_lst, qis_str_int, qis_str_bool, qis_str_str, qis_str_tup, qis_str_lst, qis_tup_int, qis_tup_bool, qis_tup_str, qis_tup_tup, qis_tup_lst, qis_lst_int, qis_lst_bool, qis_lst_str, qis_lst_tup, qis_lst_lst, qis_scr_int, qis_scr_bool, qis_scr_str, qis_scr_tup, qis_scr_lst, qis_own_int, qis_own_bool, qis_own_str, qis_own_tup, qis_own_lst, qis_int_cls, qis_bl_cls, qis_non_cls, qis_str_cls, qis_tup_cls, qis_lst_cls, qis_scr_cls, evE, evEs, evEo, evIt, evCs, evC, asgA, asgA.asgAs, Tas.len, parA, callB, permA, startA, List.map, List.length, List.replicate, List.cons_append, List.nil_append, List.append_nil, List.getElem?_cons_zero, List.getElem?_cons_succ, List.set, Ev.R.bind_ok, Ev.R.opt_some, Ev.R.nox_ok, Option.bind_some, Option.map_some, Option.getD_some, if_true, if_false, ite_true, ite_false, Bool.and_true, Bool.true_and, Bool.and_false, Bool.false_and, Bool.or_true, Bool.true_or, Bool.or_false, Bool.false_or, Bool.not_true, Bool.not_false, Bool.false_eq_true, decide_true, decide_false, eq_self, List.mapM_cons, List.mapM_nil, Option.pure_def, Option.bind_eq_bind, qrev_tup, qrev_lst, qrev_own, qrev_bor, compL_img, qat_rng, qrng1, qmk, qall_map, qany_map, qsum_map, qsum_mapL, qsum_mapT, qall_tt, List.length_map, List.length_range, zip_rng, enum_rng, qat_0, qat_1, qat_2, qat_3, qps_nil, qps_cons, Nat.reduceAdd, Nat.zero_add, sz_0, sz_1, sz_2, sz_3, sz_4, sz_5, sz_6, sz_7, sz_8, sz_9, sz_10, sz_11, sz_12, $ls,*])
local macro_rules
  | `(tactic| fail "lln") => `(tactic| first
    | with_reducible assumption
    | omega
    | (simp only [List.length_map, List.length_range, List.length_cons, List.length_nil, List.length_append, List.length_replicate, List.length_reverse, List.length_take, List.length_drop]; omega))
  | `(tactic| fail "evd") => `(tactic| first
    | with_reducible assumption
    | ((with_reducible apply Ev.le_sz); (focus (fail "lln")))
    | ((with_reducible apply Ev.lt_sz); (focus (fail "lln")))
    | ((with_reducible apply Ev.mulOk_l); (focus (omega)); (focus (omega)))
    | ((with_reducible apply Ev.mulOk_r); (focus (omega)); (focus (omega)))
    | fail "lln"
    | (simp only [decide_eq_true_eq, Bool.and_eq_true, ne_eq]; omega)
    | decide)
  | `(tactic| fail "sol") => `(tactic| first
    | with_unfolding_all rfl
    | with_reducible assumption)
  | `(tactic| fail "kpd") => `(tactic| first
    | (with_reducible assumption)
    | ((with_reducible apply AV.keep_solid); (focus (fail "sol")))
    | ((with_reducible apply AV.put_solid); (focus (fail "sol")))
    | ((with_reducible apply AV.back_solid); (focus (fail "sol")))
    | ((with_reducible apply arg_sol); (focus (fail "sol")))
    | ((with_reducible apply AV.hand_solid); (focus (fail "sol")))
    | (with_reducible apply qhand_own)
    | (with_reducible apply qkeep_own)
    | (with_reducible apply qput_ownT)
    | (with_reducible apply qput_ownF)
    | (with_reducible apply qback_own)
    | (with_reducible apply qarg_own)
    | (with_reducible apply qarg_bor))
  | `(tactic| fail "lsd") => `(tactic| first
    | (with_reducible apply kp_nil)
    | ((with_reducible apply kp_cons); (focus (fail "kpd")); (focus (fail "lsd")))
    | (with_reducible apply arg_nil)
    | ((with_reducible apply arg_cons); (focus (fail "kpd")); (focus (fail "lsd")))
    | (with_reducible apply app_nil)
    | ((with_reducible apply app_cons); (focus (fail "lsd")))
    | (with_reducible apply pm_n)
    | ((with_reducible apply pm_c); (focus (fail "lsd")))
    | (with_reducible apply pmm_n)
    | ((with_reducible apply pmm_c); (focus (with_unfolding_all rfl)); (focus (fail "lsd"))))
  | `(tactic| fail "std") => `(tactic| first
    | (with_reducible apply st_0)
    | ((with_reducible apply st_s); (focus (fail "std"))))
  | `(tactic| fail "tgd") => `(tactic| first
    | ((with_reducible apply tg_w); (focus (fail "tgd")); (focus (fail "tgd")))
    | ((with_reducible apply tg_w2); (focus (fail "tgd")); (focus (fail "tgd")); (focus (fail "tgd")))
    | ((with_reducible apply wp_v); (focus (fail "std")))
    | ((with_reducible apply wp_t); (focus (fail "tgd")))
    | (with_reducible apply wps_n)
    | ((with_reducible apply wps_c); (focus (fail "tgd")); (focus (fail "tgd")))
    | ((with_reducible apply tg_v); (focus (fail "kpd")); (focus (fail "std")))
    | ((with_reducible apply tg_t); (focus (fail "tgd")))
    | (with_reducible apply tgs_n)
    | ((with_reducible apply tgs_c); (focus (fail "tgd")); (focus (fail "tgd")))
    | (with_reducible apply pr_n)
    | ((with_reducible apply pr_c); (focus (fail "kpd")); (focus (fail "std")); (focus (fail "tgd")))
    | (with_reducible apply sp_n)
    | ((with_reducible apply sp_c); (focus (fail "std")); (focus (fail "tgd")))
    | (with_reducible apply wp_n)
    | ((with_reducible apply wp_c); (focus (fail "tgd")); (focus (fail "std"))))
  | `(tactic| fail "bin") => `(tactic| first
    | (with_reducible apply qadd_int)
    | (with_reducible apply qsub_int)
    | ((with_reducible apply qadd_tup); (focus (fail "evd")))
    | ((with_reducible apply qmul_int); (focus (fail "evd")))
    | ((with_reducible apply qfdiv_int); (focus (fail "evd")))
    | ((with_reducible apply qmod_int); (focus (fail "evd")))
    | ((with_reducible apply qpow_int); (focus (fail "evd")))
    | (with_reducible assumption))
  | `(tactic| fail "cmp") => `(tactic| first
    | (with_reducible apply qcmp_Lt)
    | (with_reducible apply qcmp_LtE)
    | (with_reducible apply qcmp_Gt)
    | (with_reducible apply qcmp_GtE)
    | ((with_reducible apply qcmp_isNf); (focus (fail "sol")))
    | ((with_reducible apply qcmp_isNt); (focus (fail "sol")))
    | ((with_reducible apply qcmp_isnNf); (focus (fail "sol")))
    | ((with_reducible apply qcmp_isnNt); (focus (fail "sol")))
    | (with_reducible apply qcmp_isN)
    | (with_reducible apply qcmp_isnN)
    | (with_reducible apply qcmp_is_tt)
    | (with_reducible apply qcmp_is_tf)
    | (with_reducible apply qcmp_is_ft)
    | (with_reducible apply qcmp_is_ff)
    | (with_reducible apply qcmp_isn_tt)
    | (with_reducible apply qcmp_isn_tf)
    | (with_reducible apply qcmp_isn_ft)
    | (with_reducible apply qcmp_isn_ff)
    | (with_reducible apply qcmp_isB)
    | (with_reducible apply qcmp_isnB)
    | (with_reducible apply qcmp_EqI)
    | (with_reducible apply qcmp_NeI)
    | ((with_reducible apply qcmp_EqA); (focus (with_reducible assumption)))
    | ((with_reducible apply qcmp_NeAt); (focus (with_reducible assumption)))
    | ((with_reducible apply qcmp_NeAf); (focus (with_reducible assumption)))
    | ((with_reducible apply qcmp_NeA); (focus (with_reducible assumption)))
    | (with_reducible assumption))
  | `(tactic| fail "tru") => `(tactic| first
    | (with_reducible apply qtru_bl)
    | (with_reducible apply qtru_non)
    | (with_reducible apply qtru_int)
    | (with_reducible assumption)
    | (with_reducible apply qtru_tup)
    | (with_reducible apply qtru_lst)
    | (with_reducible apply qtru_own)
    | (with_reducible apply qtru_bor))
  | `(tactic| fail "idx") => `(tactic| first
    | ((with_reducible apply qidx_tup_); (focus (first
    | ((with_reducible apply qat_0))
    | (with_reducible apply qat_1)
    | (with_reducible apply qat_2)
    | (with_reducible apply qat_3)
    | ((with_reducible apply qat_rng); (focus (fail "evd")))
    | ((with_reducible apply at_ofn); (focus (fail "evd")))
    | ((with_reducible apply at_s); (focus (fail "evd")))
    | (with_reducible assumption))))
    | ((with_reducible apply qidx_lst_); (focus (first
    | ((with_reducible apply qat_0))
    | (with_reducible apply qat_1)
    | (with_reducible apply qat_2)
    | (with_reducible apply qat_3)
    | ((with_reducible apply qat_rng); (focus (fail "evd")))
    | ((with_reducible apply at_ofn); (focus (fail "evd")))
    | ((with_reducible apply at_s); (focus (fail "evd")))
    | (with_reducible assumption))))
    | ((with_reducible apply qidx_own_); (focus (first
    | ((with_reducible apply qat_0))
    | (with_reducible apply qat_1)
    | (with_reducible apply qat_2)
    | (with_reducible apply qat_3)
    | ((with_reducible apply qat_rng); (focus (fail "evd")))
    | ((with_reducible apply at_ofn); (focus (fail "evd")))
    | ((with_reducible apply at_s); (focus (fail "evd")))
    | (with_reducible assumption))))
    | ((with_reducible apply qidx_bor_); (focus (first
    | ((with_reducible apply qat_0))
    | (with_reducible apply qat_1)
    | (with_reducible apply qat_2)
    | (with_reducible apply qat_3)
    | ((with_reducible apply qat_rng); (focus (fail "evd")))
    | ((with_reducible apply at_ofn); (focus (fail "evd")))
    | ((with_reducible apply at_s); (focus (fail "evd")))
    | (with_reducible assumption))))
    | (with_reducible assumption))
  | `(tactic| fail "bf") => `(tactic| first
    | (with_reducible apply qlen_tup)
    | (with_reducible apply qlen_lst)
    | (with_reducible apply qlen_own)
    | (with_reducible apply qlen_bor)
    | (with_reducible apply qlen_scr)
    | (with_reducible apply qabs)
    | (with_reducible apply qbint)
    | (with_reducible apply qmax2)
    | (with_reducible apply qmin2)
    | (with_reducible apply qmin_t2)
    | (with_reducible apply qmax_t2)
    | (with_reducible apply qtuple_tup)
    | (with_reducible apply qtuple_lst)
    | (with_reducible apply qtuple_own)
    | (with_reducible apply qtuple_bor)
    | (with_reducible apply qtuple_scr)
    | (with_reducible apply qlist_tup)
    | (with_reducible apply qlist_lst)
    | (with_reducible apply qlist_own)
    | (with_reducible apply qlist_bor)
    | (with_reducible apply qlist_scr)
    | (with_reducible apply qsum_map)
    | (with_reducible apply qsum_mapL)
    | (with_reducible apply qsum_mapT)
    | (with_reducible apply qall_map)
    | (with_reducible apply qany_map)
    | (with_reducible assumption))
  | `(tactic| fail "seq") => `(tactic| first
    | (with_reducible apply qseqA_tup)
    | (with_reducible apply qseqA_lst)
    | (with_reducible apply qseqA_own)
    | (with_reducible apply qseqA_bor)
    | (with_reducible apply qseqA_scr)
    | (with_reducible apply qseqL_lst)
    | (with_reducible apply qseqL_own)
    | (with_reducible apply qseqL_bor)
    | (with_reducible assumption))
  | `(tactic| fail "rng") => `(tactic| first
    | ((with_reducible apply rng_ofn); (focus (fail "evd")))
    | ((with_reducible apply qrng1); (focus (fail "evd")))
    | ((with_reducible apply qrng2); (focus (fail "evd")); (focus (fail "evd")))
    | (with_reducible assumption))
  | `(tactic| fail "ev1") => `(tactic| first
    | ((with_reducible apply w_var); (focus (with_unfolding_all rfl)); (focus (fail "sol")))
    | (with_reducible apply w_lit)
    | ((with_reducible apply w_varO); (focus (with_unfolding_all rfl)))
    | ((with_reducible apply w_varB); (focus (with_unfolding_all rfl)))
    | (with_reducible apply w_bin)
    | (with_reducible apply w_idx)
    | (with_reducible apply w_call)
    | (with_reducible apply w_bf)
    | (with_reducible apply w_cmp)
    | (with_reducible apply w_tup)
    | (with_reducible apply w_lst)
    | (with_reducible apply w_lstT)
    | (with_reducible apply w_neg)
    | (with_reducible apply w_chain)
    | (with_reducible apply w_and)
    | (with_reducible apply w_or)
    | (with_reducible apply w_not)
    | (with_reducible apply w_ite)
    | (with_reducible apply w_slc)
    | (with_reducible apply w_lsc)
    | (with_reducible apply w_lrg1)
    | (with_reducible apply w_lrg2)
    | (with_reducible apply w_rev)
    | (with_reducible apply w_lset)
    | (with_reducible apply w_isTL)
    | (with_reducible apply w_trg1)
    | (with_reducible apply w_callK)
    | (with_reducible apply w_callv)
    | (with_reducible apply w_inT)
    | (with_reducible apply w_atT)
    | (with_reducible apply w_isi)
    | (with_reducible apply w_make)
    | (with_reducible apply w_makeK)
    | (with_reducible apply w_attr)
    | (with_reducible apply w_meth)
    | (with_reducible apply w_methK)
    | (with_reducible apply w_esn)
    | (with_reducible apply w_esc)
    | (with_reducible apply w_ess)
    | (with_reducible apply w_itv)
    | (with_reducible apply w_itr)
    | (with_reducible apply w_ite')
    | (with_reducible apply w_itz)
    | (with_reducible apply w_itez)
    | (with_reducible apply w_eon)
    | (with_reducible apply w_eos)
    | (with_reducible apply s_psn)
    | (with_reducible apply s_psc)
    | ((with_reducible apply w_pbin); (focus (fail "bin")))
    | ((with_reducible apply w_back); (focus (fail "kpd")))
    | ((with_reducible apply w_hnd); (focus (fail "kpd")))
    | ((with_reducible apply w_pcmp); (focus (fail "cmp")))
    | ((with_reducible apply w_ptru); (focus (fail "tru")))
    | ((with_reducible apply w_pidx); (focus (fail "idx")))
    | ((with_reducible apply w_pbf); (focus (fail "bf")))
    | ((with_reducible apply w_pseqA); (focus (fail "seq")))
    | ((with_reducible apply w_pseqL); (focus (fail "seq")))
    | ((with_reducible apply w_prng); (focus (fail "rng")))
    | ((with_reducible apply w_pisiT); (focus (with_unfolding_all rfl)))
    | ((with_reducible apply w_pisiF); (focus (with_unfolding_all rfl)))
    | ((with_reducible apply w_kept); (focus (fail "kpd")))
    | ((with_reducible apply w_putt); (focus (fail "kpd")))
    | ((with_reducible apply w_keeps); (focus (fail "lsd")); (focus (fail "evd")))
    | ((with_reducible apply w_eqn); (focus (fail "lsd")))
    | ((with_reducible apply w_kw); (focus (fail "lsd")); (focus (fail "lsd")); (focus (((with_reducible apply app_3); (focus (fail "lsd")); (focus (fail "lsd"))))); (focus (fail "lsd")))
    | ((with_reducible apply w_srcA); (focus (with_unfolding_all rfl)))
    | (with_reducible apply w_eqi)
    | ((with_reducible apply w_eqf); (focus (with_unfolding_all rfl)))
    | (with_reducible apply w_pneg)
    | ((with_reducible apply w_pinT); (focus (with_reducible assumption)))
    | ((with_reducible apply w_patT); (focus (fail "atT")))
    | ((with_reducible apply w_ntl); (focus (first
    | (with_reducible apply Bool.not_true)
    | (with_reducible apply Bool.not_false)
    | (with_reducible apply nt_refl))))
    | ((with_reducible apply w_pslc); (focus (first
    | ((with_reducible apply slc_take); (focus (fail "evd")))
    | ((with_reducible apply slc_drop); (focus (fail "evd")))
    | ((with_reducible apply slc_drop1); (focus (fail "evd")))
    | ((with_reducible apply slc_takeM); (focus (fail "evd")); (focus (fail "drp")))
    | ((with_reducible apply slc_dropM); (focus (fail "evd")); (focus (fail "drp")))
    | assumption)))
    | ((with_reducible apply w_ptl); (focus (with_unfolding_all rfl)))
    | ((with_reducible apply w_prev); (focus (with_unfolding_all rfl)))
    | ((with_reducible apply w_rng2); (focus (fail "rng")); (focus (fail "evd")))
    | (with_reducible apply w_tt)
    | (with_reducible apply w_ff)
    | ((with_reducible apply w_dt); (focus (fail "evd")))
    | ((with_reducible apply w_df); (focus (fail "evd")))
    | ((with_reducible apply w_ndt); (focus (fail "evd")))
    | ((with_reducible apply w_ndf); (focus (fail "evd")))
    | ((with_reducible apply w_btt); (focus (with_reducible assumption)))
    | ((with_reducible apply w_bff); (focus (with_reducible assumption)))
    | ((with_reducible apply w_nbt); (focus (with_reducible assumption)))
    | ((with_reducible apply w_nbf); (focus (with_reducible assumption))))
  | `(tactic| fail "br") => `(tactic| first
    | (with_reducible apply w_tt)
    | (with_reducible apply w_ff)
    | ((with_reducible apply w_dt); (focus (fail "evd")))
    | ((with_reducible apply w_df); (focus (fail "evd")))
    | ((with_reducible apply w_ndt); (focus (fail "evd")))
    | ((with_reducible apply w_ndf); (focus (fail "evd")))
    | ((with_reducible apply w_btt); (focus (with_reducible assumption)))
    | ((with_reducible apply w_bff); (focus (with_reducible assumption)))
    | ((with_reducible apply w_nbt); (focus (with_reducible assumption)))
    | ((with_reducible apply w_nbf); (focus (with_reducible assumption))))
  | `(tactic| fail "atT") => `(tactic| first
    | (with_reducible apply atT_hd)
    | ((with_reducible apply atT_tl); (focus (decide +kernel)); (focus (fail "atT"))))
  | `(tactic| fail "drp") => `(tactic| first
    | (with_reducible apply dr_0)
    | ((with_reducible apply dr_s); (focus (fail "drp")))
    | (with_reducible apply tk_0)
    | ((with_reducible apply tk_s); (focus (fail "drp")))
    | (with_reducible apply dr_n)
    | (with_reducible apply tk_n))
  | `(tactic| fail "ev") => `(tactic| repeat (fail "ev1"))
  | `(tactic| nomatch $es,*) => do
      let ts := es.getElems
      let a ← ts.mapM fun t => `(tacticSeq| with_reducible apply Tr.of $t)
      `(tactic| repeat (first | fail "ev1" | (first $[| $a:tacticSeq]*)))
  | `(tactic| fail "go") => `(tactic| repeat (first
    | (with_reducible apply t_nil)
    | ((with_reducible refine s_asgV fun K hK => ?_); fail "ev"; (apply hK); (focus (fail "kpd")); (focus (fail "std")); clear hK K)
    | ((with_reducible refine s_if fun K hK => ?_); fail "ev"; (apply hK); (focus (fail "tru")); clear hK K; fail "br")
    | ((with_reducible refine s_asgT fun K hK => ?_); fail "ev"; (apply hK); (focus (fail "tgd")); clear hK K)
    | ((with_reducible refine s_expr fun K hK => ?_); fail "ev"; (apply hK); clear hK K)
    | ((with_reducible refine s_par fun K hK => ?_); fail "ev"; (apply hK); (focus (fail "tgd")); clear hK K)
    | ((with_reducible refine s_parP fun K hK => ?_); fail "ev"; (apply hK); (focus (fail "tgd")); clear hK K)
    | ((with_reducible apply s_appO); (focus (with_unfolding_all rfl)); intro K hK; fail "ev"; (apply hK); (focus (fail "kpd")); (focus (fail "evd")); (focus rfl); (focus (fail "std")); clear hK K)
    | ((with_reducible apply s_ret); fail "ev")))
  | `(tactic| exists $es,*) => `(tactic| repeat (first
    | (with_reducible apply t_nil)
    | ((with_reducible refine s_asgV fun K hK => ?_); nomatch $es,*; (apply hK); (focus (fail "kpd")); (focus (fail "std")); clear hK K)
    | ((with_reducible refine s_if fun K hK => ?_); nomatch $es,*; (apply hK); (focus (fail "tru")); clear hK K; fail "br")
    | ((with_reducible refine s_asgT fun K hK => ?_); nomatch $es,*; (apply hK); (focus (fail "tgd")); clear hK K)
    | ((with_reducible refine s_expr fun K hK => ?_); nomatch $es,*; (apply hK); clear hK K)
    | ((with_reducible refine s_par fun K hK => ?_); nomatch $es,*; (apply hK); (focus (fail "tgd")); clear hK K)
    | ((with_reducible refine s_parP fun K hK => ?_); nomatch $es,*; (apply hK); (focus (fail "tgd")); clear hK K)
    | ((with_reducible apply s_appO); (focus (with_unfolding_all rfl)); intro K hK; nomatch $es,*; (apply hK); (focus (fail "kpd")); (focus (fail "evd")); (focus rfl); (focus (fail "std")); clear hK K)
    | ((with_reducible apply s_ret); nomatch $es,*)))

section
set_option Elab.async false
set_option linter.all false
set_option maxRecDepth 100000
set_option maxHeartbeats 1600000
set_option pp.deepTerms false
set_option pp.deepTerms.threshold 9
open Ev PySem
namespace My
open LA
abbrev row (m : Nat) (D : Nat → Int) : AV := .tup ((List.range m).map fun j => .int (D j))
abbrev tab (m : Nat) (D : Nat → Nat → Int) : AV := .tup ((List.range m).map fun i => row m (D i))
structure Tb (m : Nat) (D : Nat → Nat → Int) : Prop where
  lo : 1 ≤ m
  hi : m ≤ 8
  dg : ∀ i, i < m → D i i = 0
  sy : ∀ i j, i < m → j < m → D i j = D j i
  b0 : ∀ i j, i < m → j < m → 0 ≤ D i j
  b1 : ∀ i j, i < m → j < m → D i j ≤ 1000000000
theorem le8 {m : Nat} (h : m ≤ 8) : m ≤ Ev.sizeLine := le_sz (by omega)
theorem is_integer (n : Nat) (i : Int) (g : G) : callN P (n + 1) 19 [.int i] g = .ok (.bl true) g := by
  refine t_eq f19 rfl rfl ?_
  simp -implicitDefEqProofs only [n19, startA, List.map, List.length, List.replicate, List.cons_append, List.nil_append, Nat.reduceAdd, Nat.reduceSub, Nat.zero_add]
  exact t_ret (by simp_all! []; rfl) rfl ⟨rfl, rfl⟩
theorem is_between (n : Nat) (i a b : Int) (g : G) : callN P (n + 2) 15 [.int i, .int a, .int b] g = .ok (.bl (decide (a ≤ i) && decide (i ≤ b))) g := by
  refine t_eq f15 rfl rfl ?_
  simp -implicitDefEqProofs only [n15, startA, List.map, List.length, List.replicate, List.cons_append, List.nil_append, Nat.reduceAdd, Nat.reduceSub, Nat.zero_add]
  by_cases h : a ≤ i
  · exact t_ret (by simp_all! [is_integer, h]; rfl) rfl ⟨by simp_all! [h], rfl⟩
  · exact t_ret (by simp_all! [is_integer, h]; rfl) rfl ⟨by simp_all! [h], rfl⟩
theorem is_square (n : Nat) (i : Int) (g : G) : callN P (n + 3) 18 [.int i] g = .ok (.bl (decide (0 ≤ i) && decide (i ≤ 1000000000))) g := by
  refine t_eq f18 rfl rfl ?_
  simp -implicitDefEqProofs only [n18, startA, List.map, List.length, List.replicate, List.cons_append, List.nil_append, Nat.reduceAdd, Nat.reduceSub, Nat.zero_add]
  exact t_ret (by simp_all! [is_between]; rfl) rfl ⟨rfl, rfl⟩
theorem is_row {m : Nat} {D : Nat → Nat → Int} (T : Tb m D) (n k : Nat) (hk : k < m) (g : G) : callN P (n + 4) 13 [row m (D k), tab m D, .int (k : Int)] g = .ok (.bl true) g := by
  refine t_eq f13 rfl rfl ?_
  simp -implicitDefEqProofs only [n13, startA, List.map, List.length, List.replicate, List.cons_append, List.nil_append, Nat.reduceAdd, Nat.reduceSub, Nat.zero_add]
  have hm := T.hi
  have hsz := le8 T.hi
  have hsk : k ≤ Ev.sizeLine := le_sz (by omega)
  have hkb : k < 1000000000 := by omega
  refine t_ifN (g1 := g) ?_ ?_
  · simp_all! [is_square]
    rw [compL_map]
    rotate_left
    · intro x hx
      have hx := List.mem_range.mp hx
      simp_all! [is_square, T.b0 k _ hk hx, T.b1 k _ hk hx]
      rfl
    simp_all! [hsz]
  · apply t_ret
    · simp_all! [hk, T.dg k hk, hkb]
      rw [compL_map]
      rotate_left
      · intro x hx
        have hx := List.mem_range.mp hx
        simp_all! [hk, Nat.lt_trans hx hk, T.sy k _ hk (Nat.lt_trans hx hk)]
        rfl
      simp_all! [hsk]
      rfl
    · rfl
    · exact ⟨rfl, rfl⟩
theorem wrong_row {m : Nat} {D : Nat → Nat → Int} (T : Tb m D) (n : Nat) (g : G) : callN P (n + 5) 9 [tab m D] g = .ok .non g := by
  refine t_eq f9 rfl rfl ?_
  simp -implicitDefEqProofs only [n9, startA, List.map, List.length, List.replicate, List.cons_append, List.nil_append, Nat.reduceAdd, Nat.reduceSub, Nat.zero_add]
  refine t_forN (fun i σ g' => ∃ a b, σ = [some (tab m D), a, b] ∧ g' = g) (by simp_all! []; rfl) ⟨_, _, rfl, rfl⟩ ?_ ?_
  · rintro i hi σ g' ⟨a, b, rfl, rfl⟩
    refine ⟨_, by simp_all! []; rfl, t_ifN (g1 := g') (by simp_all! [is_row T n i hi]) (t_nil ⟨_, _, rfl, rfl⟩)⟩
  · rintro σ g' ⟨a, b, rfl, rfl⟩
    exact t_ret rfl rfl ⟨rfl, rfl⟩
/-- the instance -/
abbrev lens (m : Nat) (D : Nat → Nat → Int) : AV := .ins 0 [0] [tab m D]
theorem init {m : Nat} {D : Nat → Nat → Int} (T : Tb m D) (n : Nat) : callN P (n + 6) 21 [.ref 0, tab m D] [some (.ins 0 [] [])] = .ok .non [some (.ins 0 [0] [tab m D])] := by
  refine t_eq f21 rfl rfl ?_
  simp -implicitDefEqProofs only [n21, startA, List.map, List.length, List.replicate, List.cons_append, List.nil_append, Nat.reduceAdd, Nat.reduceSub, Nat.zero_add]
  have h1 : decide ((1 : Int) ≤ (m : Int)) = true := by have := T.lo; simp only [decide_eq_true_eq]; omega
  have h2 : decide ((m : Int) ≤ 8) = true := by have := T.hi; simp only [decide_eq_true_eq]; omega
  refine t_ifN (g1 := [some (.ins 0 [] [])]) (by simp_all! [h1, h2]) ?_
  refine t_asg (v := .non) (σ1 := [some (.ref 0), some (tab m D), some .non]) (g2 := [some (.ins 0 [] [])]) (by simp_all! [wrong_row T n]) rfl ?_
  refine t_ifN (g1 := [some (.ins 0 [] [])]) rfl ?_
  exact t_asg (v := tab m D) (g1 := [some (.ins 0 [] [])]) rfl rfl (t_nil ⟨by simp, by rfl⟩)
theorem frz_tup (g : G) (k : Nat) (xs : List AV) : frzV g (k + 1) (.tup xs) = (xs.mapM (frzV g k)).map .tup := rfl
theorem frz_ref (k c : Nat) (ns : List Nat) (vs : List AV) (r : G) : frzV (some (.ins c ns vs) :: r) (k + 1) (.ref 0) = (vs.mapM (frzV (some (.ins c ns vs) :: r) k)).map (.ins c ns) := rfl
theorem frz_map {α : Type} (g : G) (k : Nat) (f : α → AV) : ∀ l : List α, (∀ x ∈ l, frzV g k (f x) = some (f x)) → (l.map f).mapM (frzV g k) = some (l.map f)
  | [], _ => rfl
  | a :: l, h => by
    rw [List.map_cons, List.mapM_cons, h a (List.mem_cons_self ..), frz_map g k f l fun x hx => h x (List.mem_cons_of_mem _ hx)]
    rfl
theorem frz_row (g : G) (k m : Nat) (D : Nat → Int) : frzV g (k + 2) (row m D) = some (row m D) := by
  rw [row, frz_tup, frz_map g (k + 1) (fun j => AV.int (D j)) _ fun _ _ => rfl]
  rfl
theorem frz_tab (g : G) (k m : Nat) (D : Nat → Nat → Int) : frzV g (k + 3) (tab m D) = some (tab m D) := by
  rw [tab, frz_tup, frz_map g (k + 2) (fun i => row m (D i)) _ fun i _ => frz_row g k m (D i)]
  rfl
theorem pure_map {α : Type} (f : α → AV) : ∀ l : List α, (∀ x ∈ l, (f x).pure = true) → AV.pures (l.map f) = true
  | [], _ => rfl
  | a :: l, h => by rw [List.map_cons, AV.pures, h a (List.mem_cons_self ..), pure_map f l fun x hx => h x (List.mem_cons_of_mem _ hx)]; rfl
theorem pure_row (m : Nat) (D : Nat → Int) : (row m D).pure = true := pure_map _ _ fun _ _ => rfl
theorem pure_tab (m : Nat) (D : Nat → Nat → Int) : (tab m D).pure = true := pure_map _ _ fun _ _ => pure_row _ _
theorem pures_tab (m : Nat) (D : Nat → Nat → Int) : AV.pures [tab m D] = true := by rw [AV.pures, pure_tab]; rfl
theorem make {m : Nat} {D : Nat → Nat → Int} (T : Tb m D) (n : Nat) (g : G) : makeA P (callN P (n + 6)) 0 true true [tab m D] g = .ok (lens m D) g := by
  have h : frzV [some (.ins 0 [0] [tab m D])] 12 (.ref 0) = some (lens m D) := by
    rw [frz_ref 11, List.mapM_cons, List.mapM_nil, frz_tab _ 8]
    rfl
  have hp : (lens m D).pure = true := by
    show (AV.pures [tab m D]) = true
    exact pures_tab m D
  unfold makeA
  simp only [c0, if_true, init T n, h, Option.bind_some, hp, R.opt_some]
theorem attr_lens {m : Nat} {D : Nat → Nat → Int} (call : CallT) (g : G) : attrA P call (lens m D) 0 g = .ok (tab m D) g := by
  unfold attrA fldsA lens
  simp only [c0]
  rfl
theorem check_lengths (n : Nat) (m : Nat) (D : Nat → Nat → Int) (g : G) : callN P (n + 1) 14 [lens m D] g = .ok .non g := by
  refine t_eq f14 rfl rfl ?_
  simp -implicitDefEqProofs only [n14, startA, List.map, List.length, List.replicate, List.cons_append, List.nil_append, Nat.reduceAdd, Nat.reduceSub, Nat.zero_add]
  exact t_ifN (g1 := g) rfl (t_nil ⟨by simp, by rfl⟩)

end My
end

section
set_option Elab.async false
set_option linter.all false
set_option maxRecDepth 100000
set_option maxHeartbeats 1600000
set_option pp.deepTerms false
set_option pp.deepTerms.threshold 9
open Ev PySem
namespace My
/-- where draws come from: a list of three numbers in the store -/
def Ket (r : Nat) (g : G) : Prop := ∃ a b c : Int, g[r]? = some (some (.lst [.int a, .int b, .int c]))
theorem set_at {g : G} {r : Nat} {c c' : Cell} (h : g[r]? = some (some c)) : (g.set r (some c'))[r]? = some (some c') := by
  have := (List.getElem?_eq_some_iff.mp h).1
  rw [List.getElem?_set_self this]
theorem set_off {g : G} {r j : Nat} {c' : Cell} (h : j ≠ r) : (g.set r (some c'))[j]? = g[j]? := by
  rw [List.getElem?_set_ne (by omega)]
/-- nothing but the cell r is another one -/
def Oth (r : Nat) (g g' : G) : Prop := g'.length = g.length ∧ ∀ j, j ≠ r → g'[j]? = g[j]?
theorem Oth.refl (r : Nat) (g : G) : Oth r g g := ⟨rfl, fun _ _ => rfl⟩
theorem Oth.trans {r : Nat} {a b c : G} (h : Oth r a b) (k : Oth r b c) : Oth r a c := ⟨k.1.trans h.1, fun j hj => (k.2 j hj).trans (h.2 j hj)⟩
theorem Oth.set (r : Nat) (g : G) (c : Cell) : Oth r g (g.set r (some c)) := ⟨List.length_set, fun j hj => set_off hj⟩
theorem cut_none (ns : List Int) (k : Nat) : cut (ns.map AV.int) none (some (k : Int)) = (ns.take k).map AV.int := by
  unfold cut
  have h1 : sIx (ns.map AV.int).length 0 none = 0 := rfl
  have h2 : sIx (ns.map AV.int).length (ns.map AV.int).length (some (k : Int)) = min k ns.length := by
    simp [sIx]; omega
  rw [h1, h2, List.drop_zero, Nat.sub_zero, ← List.map_take]
  congr 1
  rw [List.take_eq_take_iff]
  omega
theorem at_ints (ns : List Int) (k : Nat) (h : k < ns.length) : atI (ns.map AV.int) (k : Int) = some (.int ns[k]) :=
  qat_get (by rw [List.getElem?_map, List.getElem?_eq_getElem h]; rfl)
theorem Ket_new (g : G) (a b c : Int) : Ket g.length (g ++ [some (.lst [.int a, .int b, .int c])]) := ⟨a, b, c, by rw [List.getElem?_append_right (Nat.le_refl _), Nat.sub_self]; rfl⟩
theorem Ket.app {r : Nat} {g : G} (k : Ket r g) (l : G) : Ket r (g ++ l) := by
  obtain ⟨a, b, c, h⟩ := k
  have := (List.getElem?_eq_some_iff.mp h).1
  exact ⟨a, b, c, by rw [List.getElem?_append_left this]; exact h⟩
end My
end

section
set_option Elab.async false
set_option linter.all false
set_option maxRecDepth 100000
set_option maxHeartbeats 1600000
set_option pp.deepTerms false
set_option pp.deepTerms.threshold 9
open Ev PySem
namespace My
/-! the kettle -/
theorem sip (n : Nat) (k r : Nat) (hk : 1 ≤ k) (hk2 : k < 2000000) (g : G) (hg : Ket r g) : ∃ (v : Nat) (g' : G), callN P (n + 1) 184 [.ref r, .int (k : Int)] g = .ok (.int (v : Int)) g' ∧ v < k ∧ Ket r g' ∧ Oth r g g' := by
  obtain ⟨a, b, c, hg⟩ := hg
  have key : Tr (callN P (n + 1) 184 [.ref r, .int (k : Int)] g) (fun v g' => ∃ u : Nat, v = .int (u : Int) ∧ u < k ∧ Ket r g' ∧ Oth r g g') := by
    refine t_def f184 rfl rfl ?_
    show TrS (evSs P (callN P n) e184.body [some (.ref r), some (.int (k : Int)), none, none] g) _ _
    have i0 : ixN 3 0 = some 0 := rfl
    have i1 : ixN 3 1 = some 1 := rfl
    have i2 : ixN 3 2 = some 2 := rfl
    have h0 : ∀ i, idxA g (.ref r) (.int i) = atI [.int a, .int b, .int c] i := fun i => qidx_ref _ g r i hg
    refine t_asg (v := .int (c + 2)) (σ1 := [some (.ref r), some (.int (k : Int)), none, none]) (g1 := g) (g2 := g.set r (some (.lst [.int a, .int b, .int (c + 2)]))) (by simp_all! [h0]) (by simp_all! [hg, i2, Nat.reduceAdd, Nat.zero_add]) ?_
    have hg1 : (g.set r (some (.lst [.int a, .int b, .int (c + 2)])))[r]? = some (some (.lst [.int a, .int b, .int (c + 2)])) := set_at hg
    have o1 : Oth r g (g.set r (some (.lst [.int a, .int b, .int (c + 2)]))) := Oth.set _ _ _
    revert hg1 o1
    generalize g.set r (some (.lst [.int a, .int b, .int (c + 2)])) = g1
    intro hg1 o1
    have h1 : ∀ i, idxA g1 (.ref r) (.int i) = atI [.int a, .int b, .int (c + 2)] i := fun i => qidx_ref _ g1 r i hg1
    have hkz : (decide (0 < (k : Int)) && decide ((k : Int) < 1073741824)) = true := by
      simp only [Bool.and_eq_true, decide_eq_true_eq]; omega
    refine t_if (t := decide (0 < a)) (g1 := g1) (by simp_all! [h1]) ?_ ?_
    · intro hb
      have hb := of_decide_eq_true hb
      have hdm : bfA g1 .divmod [.int a, .int (k : Int)] = some (.tup [.int (a / (k : Int)), .int (a % (k : Int))]) := by
        simp only [bfA, hkz, if_true]
      refine t_asg (v := .tup [.int (a / (k : Int)), .int (a % (k : Int))]) (σ1 := [some (.ref r), some (.int (k : Int)), some (.int (a % (k : Int))), none]) (g1 := g1) (g2 := g1.set r (some (.lst [.int (a / (k : Int)), .int b, .int (c + 2)]))) (by simp_all! [h1, hdm]) (by simp_all! [hg1, i0, Nat.reduceAdd, Nat.zero_add]) ?_
      refine t_ret (v := .int (a % (k : Int))) rfl rfl ⟨(a % (k : Int)).toNat, ?_, ?_, ⟨_, _, _, set_at hg1⟩, o1.trans (Oth.set _ _ _)⟩
      · rw [Int.toNat_of_nonneg (Int.emod_nonneg _ (by omega))]
      · have := Int.emod_lt_of_pos a (show 0 < (k : Int) by omega)
        have := Int.emod_nonneg a (show (k : Int) ≠ 0 by omega)
        omega
    · intro hb
      refine t_nil ?_
      have m1 : mulOk b 37813 = true := mulOk_r (by omega) (by omega)
      have m2 : mulOk (c + 2) 65537 = true := mulOk_r (by omega) (by omega)
      have m3 : mulOk (b.fdiv 6007) 109 = true := mulOk_r (by omega) (by omega)
      have d1 : divOk 6007 = true := by decide
      have d2 : divOk 389 = true := by decide
      have z1 : decide ((2147483497 : Int) ≠ 0) = true := by decide
      have z2 : decide ((k : Int) ≠ 0) = true := by simp only [decide_eq_true_eq]; omega
      refine t_asg (v := .int (b * 37813 + (c + 2) * 65537)) (σ1 := [some (.ref r), some (.int (k : Int)), none, some (.int (b * 37813 + (c + 2) * 65537))]) (g1 := g1) (g2 := g1) (by simp_all! [h1, m1, m2]) rfl ?_
      generalize b * 37813 + (c + 2) * 65537 = s
      refine t_asg (v := .int ((s + b.fdiv 6007 * 109).fmod 2147483497)) (σ1 := [some (.ref r), some (.int (k : Int)), none, some (.int s)]) (g1 := g1) (g2 := g1.set r (some (.lst [.int a, .int ((s + b.fdiv 6007 * 109).fmod 2147483497), .int (c + 2)]))) (by simp_all! [h1, m3, d1, z1]) (by simp_all! [hg1, i1, Nat.reduceAdd, Nat.zero_add]) ?_
      have hg2 := set_at (c' := .lst [.int a, .int ((s + b.fdiv 6007 * 109).fmod 2147483497), .int (c + 2)]) hg1
      have o2 := o1.trans (Oth.set r g1 (.lst [.int a, .int ((s + b.fdiv 6007 * 109).fmod 2147483497), .int (c + 2)]))
      revert hg2 o2
      generalize g1.set r (some (.lst [.int a, .int ((s + b.fdiv 6007 * 109).fmod 2147483497), .int (c + 2)])) = g2
      generalize (s + b.fdiv 6007 * 109).fmod 2147483497 = b2
      intro hg2 o2
      have h2 : ∀ i, idxA g2 (.ref r) (.int i) = atI [.int a, .int b2, .int (c + 2)] i := fun i => qidx_ref _ g2 r i hg2
      refine t_ret (v := .int ((b2.fdiv 389).fmod (k : Int))) (g1 := g2) (by simp_all! [h2, d2, z2]) rfl ⟨((b2.fdiv 389).fmod (k : Int)).toNat, ?_, ?_, ⟨_, _, _, hg2⟩, o2⟩
      · rw [Int.toNat_of_nonneg (Int.fmod_nonneg_of_pos _ (by omega))]
      · have := Int.fmod_lt_of_pos (b2.fdiv 389) (show 0 < (k : Int) by omega)
        have := Int.fmod_nonneg_of_pos (b2.fdiv 389) (show 0 < (k : Int) by omega)
        omega
  obtain ⟨v, g', h, u, rfl, h1, h2, h3⟩ := key.get
  exact ⟨u, g', h, h1, h2, h3⟩
theorem kettle (n : Nat) (ns : List Int) (k : Nat) (hk : k < 1000) (g : G) : ∃ g', callN P (n + 1) 180 [.scr (ns.map AV.int), .int (k : Int)] g = .ok (.ref g.length) g' ∧ Ket g.length g' := by
  have key : Tr (callN P (n + 1) 180 [.scr (ns.map AV.int), .int (k : Int)] g) (fun v g' => v = .ref g.length ∧ Ket g.length g') := by
    refine t_def f180 rfl rfl ?_
    show TrS (evSs P (callN P n) e180.body [some (.scr (ns.map AV.int)), some (.int (k : Int)), none, none, none] g) _ _
    have m1 : mulOk 151 (k : Int) = true := mulOk_l (by omega) (by omega)
    have m2 : mulOk 919 (k : Int) = true := mulOk_l (by omega) (by omega)
    obtain ⟨own, ho⟩ : ∃ own : Int, evE P (callN P n) (.ite (.cmp .Lt (.var 1) (.bf .len (.cons false (.var 0) .nil))) (.bf .int (.cons false (.idx (.var 0) (.var 1)) .nil)) (.bin .Add (.bin .Mult (.lit (.int 151)) (.var 1)) (.lit (.int 47)))) [some (.scr (ns.map AV.int)), some (.int (k : Int)), none, none, none] g = .ok (.int own) g := by
      by_cases h : k < ns.length
      · have h1 : decide ((k : Int) < (ns.length : Int)) = true := by simp only [decide_eq_true_eq]; omega
        exact ⟨ns[k], by simp_all! [h1, at_ints ns k h]⟩
      · have h1 : decide ((k : Int) < (ns.length : Int)) = false := by simp only [decide_eq_false_iff_not]; omega
        exact ⟨151 * (k : Int) + 47, by simp_all! [h1, m1]⟩
    refine t_asg (v := .int own) (σ1 := [some (.scr (ns.map AV.int)), some (.int (k : Int)), some (.int own), none, none]) (g1 := g) (g2 := g) ho rfl ?_
    refine t_asg (v := .int (30011 + 919 * (k : Int))) (σ1 := [some (.scr (ns.map AV.int)), some (.int (k : Int)), some (.int own), some (.int (30011 + 919 * (k : Int))), none]) (g1 := g) (g2 := g) (by simp_all! [m2]) rfl ?_
    have hc : cut (ns.map AV.int) none (some 16) = (ns.take 16).map AV.int := cut_none ns 16
    have z1 : decide ((2147483497 : Int) ≠ 0) = true := by decide
    refine t_forP (ns.take 16) (k := AV.int) (g1 := g) (fun _ σ g' => g' = g ∧ ∃ (x : Int) (a : Option AV), σ = [some (.scr (ns.map AV.int)), some (.int (k : Int)), some (.int own), some (.int x), a]) (by simp_all! [slcA, seqA, hc]) ⟨rfl, _, _, rfl⟩ ?_ ?_
    · rintro _ y _ _ σ g' ⟨rfl, x, a, rfl⟩
      refine ⟨_, rfl, ?_⟩
      have m3 : mulOk x 41381 = true := mulOk_r (by omega) (by omega)
      refine t_asg (v := .int ((x * 41381 + y.fmod 2147483497).fmod 2147483497)) (g1 := g') (by simp_all! [z1, m3]) rfl (t_nil ⟨rfl, _, _, rfl⟩)
    · rintro σ g' ⟨rfl, x, a, rfl⟩
      have m3 : mulOk x 71 = true := mulOk_r (by omega) (by omega)
      have p1 : powOk 10 15 = true := by decide
      refine t_asg (v := .int ((x * 71 + own.fmod 2147483497).fmod 2147483497)) (σ1 := [some (.scr (ns.map AV.int)), some (.int (k : Int)), some (.int own), some (.int ((x * 71 + own.fmod 2147483497).fmod 2147483497)), a]) (g1 := g') (g2 := g') (by simp_all! [z1, m3]) rfl ?_
      generalize (x * 71 + own.fmod 2147483497).fmod 2147483497 = x2
      obtain ⟨d, hd⟩ : ∃ d : Int, ∀ g', evE P (callN P n) (.ite (.or (.cmp .Lt (.var 2) (.lit (.int 0))) (.cmp .GtE (.var 2) (.bin .Pow (.lit (.int 10)) (.lit (.int 15))))) (.bf .abs (.cons false (.var 2) .nil)) (.lit (.int 0))) [some (.scr (ns.map AV.int)), some (.int (k : Int)), some (.int own), some (.int x2), a] g' = .ok (.int d) g' := by
        by_cases h : own < 0
        · have h1 : decide (own < 0) = true := by simp only [decide_eq_true_eq]; omega
          exact ⟨-own, fun g' => by simp_all! [h1, h]⟩
        · have h1 : decide (own < 0) = false := by simp only [decide_eq_false_iff_not]; omega
          by_cases h2 : (10 : Int) ^ Int.toNat 15 ≤ own
          · have h2 : decide ((10 : Int) ^ Int.toNat 15 ≤ own) = true := by simp only [decide_eq_true_eq]; exact h2
            exact ⟨own, fun g' => by simp_all! [h1, h2, p1, h]⟩
          · have h2 : decide ((10 : Int) ^ Int.toNat 15 ≤ own) = false := by simp only [decide_eq_false_iff_not]; exact h2
            exact ⟨0, fun g' => by simp_all! [h1, h2, p1]⟩
      refine t_ret (v := .ref g'.length) (g1 := g' ++ [some (.lst [.int d, .int x2, .int 1])]) ?_ rfl ⟨rfl, Ket_new _ _ _ _⟩
      · (simp_all! [↓hd, Ev.alloc, Nat.reduceAdd, Nat.zero_add, show (3 : Nat) ≤ Ev.sizeLine from by decide]; try rfl)
  obtain ⟨v, g', h, rfl, h2⟩ := key.get
  exact ⟨g', h, h2⟩
/-- one of a menu -/
theorem one_menu (n : Nat) (xs : List AV) (r : Nat) (h0 : xs ≠ []) (hl : xs.length < 1000000) (hb : ∀ x ∈ xs, x.back = some x) (g : G) (hg : Ket r g) : ∃ (v : AV) (g' : G), callN P (n + 2) 183 [.ref r, .lst xs] g = .ok v g' ∧ v ∈ xs ∧ Ket r g' ∧ Oth r g g' := by
  have h1 : 1 ≤ xs.length := by
    cases xs with
    | nil => exact absurd rfl h0
    | cons a t => simp
  obtain ⟨k, g', h2, h3, h4, h5⟩ := sip n xs.length r h1 (by omega) g hg
  have hat : atI xs (k : Int) = some xs[k] := qat_get (List.getElem?_eq_getElem h3)
  have key : Tr (callN P (n + 2) 183 [.ref r, .lst xs] g) (fun v g2 => v = xs[k] ∧ g2 = g') := by
    refine t_def f183 rfl rfl ?_
    show TrS (evSs P (callN P (n + 1)) e183.body [some (.ref r), some (.lst xs)] g) _ _
    have hbk := hb _ (List.getElem_mem h3)
    exact t_ret (v := xs[k]) (g1 := g') (by simp_all! [h2, hat]) hbk ⟨rfl, rfl⟩
  exact ⟨xs[k], g', key.eq, List.getElem_mem _, h4, h5⟩

end My
end

section
set_option Elab.async false
set_option linter.all false
set_option maxRecDepth 100000
set_option maxHeartbeats 1600000
set_option pp.deepTerms false
set_option pp.deepTerms.threshold 9
open Ev PySem
namespace My
open LA
/-- the square between two points -/
def sqd (c : Nat) (p q : Nat → Int) : Int := sm (fun j => (p j - q j) * (p j - q j)) c
theorem sqd_self (c : Nat) (p : Nat → Int) : sqd c p p = 0 := sm_zero fun j _ => by rw [Int.sub_self]; rfl
theorem sqd_comm (c : Nat) (p q : Nat → Int) : sqd c p q = sqd c q p := sm_congr fun j _ => by
  rw [← Int.neg_sub (q j) (p j), Int.neg_mul_neg]
theorem sq_bd {d : Int} {B : Nat} (h : d.natAbs ≤ B) : 0 ≤ d * d ∧ d * d ≤ ((B * B : Nat) : Int) := by
  have e : d * d = ((d.natAbs * d.natAbs : Nat) : Int) := by rw [Int.natCast_mul, Int.natAbs_mul_self' d]
  rw [e]
  have := Nat.mul_le_mul h h
  omega
theorem sm_le {f : Nat → Int} {B : Int} : ∀ {n : Nat}, (∀ i, i < n → f i ≤ B) → sm f n ≤ n * B
  | 0, _ => by simp [sm]
  | n + 1, h => by
    have h1 := sm_le (n := n) fun i hi => h i (by omega)
    have h2 := h n (by omega)
    have e : ((n + 1 : Nat) : Int) * B = (n : Int) * B + B := by push_cast; rw [Int.add_mul, Int.one_mul]
    rw [sm, e]
    omega
theorem sqd_bd {c B : Nat} {p q : Nat → Int} (hp : ∀ j, j < c → (p j).natAbs ≤ B) (hq : ∀ j, j < c → (q j).natAbs ≤ B) : 0 ≤ sqd c p q ∧ sqd c p q ≤ c * ((2 * B * (2 * B) : Nat) : Int) := by
  have hd : ∀ j, j < c → (p j - q j).natAbs ≤ 2 * B := fun j hj => by
    have := hp j hj
    have := hq j hj
    omega
  exact ⟨sm_nn fun j hj => (sq_bd (hd j hj)).1, sm_le fun j hj => (sq_bd (hd j hj)).2⟩
abbrev pts (m c : Nat) (p : Nat → Nat → Int) : AV := .tup ((List.range m).map fun k => row c (p k))
def Kep (r : Nat) (g g' : G) : Prop := g.length ≤ g'.length ∧ ∀ j, j ≠ r → j < g.length → g'[j]? = g[j]?
theorem Kep.trans {r : Nat} {a b c : G} (h : Kep r a b) (k : Kep r b c) : Kep r a c := ⟨Nat.le_trans h.1 k.1, fun j hj hl => (k.2 j hj (Nat.lt_of_lt_of_le hl h.1)).trans (h.2 j hj hl)⟩
theorem Kep.app (r : Nat) (g l : G) : Kep r g (g ++ l) := ⟨by simp, fun j _ hl => List.getElem?_append_left hl⟩
theorem Kep.set {r L q : Nat} {g g' : G} (c : Cell) (h : Kep r g g') (hg : g.length ≤ L) (hq : L ≤ q) : Kep r g (g'.set q (some c)) := ⟨by rw [List.length_set]; exact h.1, fun j hj hl => by rw [set_off (by omega)]; exact h.2 j hj hl⟩

end My
end

section
set_option Elab.async false
set_option linter.all false
set_option maxRecDepth 100000
set_option maxHeartbeats 1600000
set_option pp.deepTerms false
set_option pp.deepTerms.threshold 9
open Ev PySem
namespace My
open LA
abbrev lpts (m c : Nat) (p : Nat → Nat → Int) : List AV := (List.range m).map fun k => row c (p k)
theorem snocP (c t : Nat) (p : Nat → Nat → Int) (q : Nat → Int) : lpts t c p ++ [row c q] = lpts (t + 1) c (fun k => if k = t then q else p k) := by
  unfold lpts
  rw [List.range_succ, List.map_append]
  congr 1
  · apply List.map_congr_left
    intro k hk
    have hk := List.mem_range.mp hk
    simp only [if_neg (show ¬ k = t by omega)]
  · simp

end My
end

section
set_option Elab.async false
set_option linter.all false
set_option maxRecDepth 100000
set_option maxHeartbeats 1600000
set_option pp.deepTerms false
set_option pp.deepTerms.threshold 9
open Ev PySem
namespace My
open LA
theorem all_dat (n m c : Nat) (p : Nat → Nat → Int) : (lpts m c p).all (dat (n + 1)) = true := by
  rw [List.all_eq_true]
  intro x hx
  obtain ⟨k, _, rfl⟩ := List.mem_map.mp hx
  show ((List.range c).map _).all (dat n) = true
  rw [List.all_eq_true]
  intro y hy
  obtain ⟨j, _, rfl⟩ := List.mem_map.mp hy
  cases n <;> rfl
theorem law_pointsK (n most reach r : Nat) (hm1 : 1 ≤ most) (hm : most ≤ 8) (hr1 : 1 ≤ reach) (hr : reach ≤ 5000) (g : G) (hg : Ket r g) :
    ∃ (m c : Nat) (p : Nat → Nat → Int) (g' : G), callN P (n + 2) 23 [.ref r, .int (most : Int), .int (reach : Int)] g = .ok (.own (lpts m c p)) g' ∧ 1 ≤ m ∧ m ≤ most ∧ 1 ≤ c ∧ c ≤ 4 ∧ (∀ i j, i < m → j < c → (p i j).natAbs ≤ max 3 reach) ∧ Ket r g' ∧ Oth r g g' := by
  have key : Tr (callN P (n + 2) 23 [.ref r, .int (most : Int), .int (reach : Int)] g) (fun v g' => ∃ (m c : Nat) (p : Nat → Nat → Int), v = .own (lpts m c p) ∧ 1 ≤ m ∧ m ≤ most ∧ 1 ≤ c ∧ c ≤ 4 ∧ (∀ i j, i < m → j < c → (p i j).natAbs ≤ max 3 reach) ∧ Ket r g' ∧ Oth r g g') := by
    refine t_def f23 rfl rfl ?_
    show TrS (evSs P (callN P (n + 1)) e23.body [some (.ref r), some (.int (most : Int)), some (.int (reach : Int)), none, none, none, none, none, none, none] g) _ _
    obtain ⟨v1, g1, h1, hv1, k1, o1⟩ := sip n most r hm1 (by omega) g hg
    obtain ⟨v2, g2, h2, hv2, k2, o2⟩ := sip n 4 r (by omega) (by omega) g1 k1
    have h2 : callN P (n + 1) 184 [.ref r, .int 4] g1 = .ok (.int (v2 : Int)) g2 := h2
    refine t_par (vs := [.int ((1 + v1 : Nat) : Int), .int ((1 + v2 : Nat) : Int)]) (σ1 := [some (.ref r), some (.int (most : Int)), some (.int (reach : Int)), some (.int ((1 + v1 : Nat) : Int)), some (.int ((1 + v2 : Nat) : Int)), none, none, none, none, none]) (g1 := g2) (by simp_all! [h1, h2, show (1 : Int) + (v1 : Int) = ((1 + v1 : Nat) : Int) by omega, show (1 : Int) + (v2 : Int) = ((1 + v2 : Nat) : Int) by omega]) rfl ?_
    obtain ⟨v3, g3, h3, hv3, k3, o3⟩ := sip n 3 r (by omega) (by omega) g2 k2
    have h3 : callN P (n + 1) 184 [.ref r, .int 3] g2 = .ok (.int (v3 : Int)) g3 := h3
    obtain ⟨R, hat, hR1, hR2⟩ : ∃ R : Nat, atI [.int 1, .int 3, .int (reach : Int)] (v3 : Int) = some (.int (R : Int)) ∧ 1 ≤ R ∧ R ≤ max 3 reach := by
      rcases (show v3 = 0 ∨ v3 = 1 ∨ v3 = 2 by omega) with rfl | rfl | rfl
      · exact ⟨1, rfl, by omega, by omega⟩
      · exact ⟨3, rfl, by omega, by omega⟩
      · exact ⟨reach, rfl, by omega, by omega⟩
    generalize hm' : 1 + v1 = m
    generalize hc' : 1 + v2 = c
    refine t_parP (vs := [.int (R : Int), .own []]) (σ1 := [some (.ref r), some (.int (most : Int)), some (.int (R : Int)), some (.int (m : Int)), some (.int (c : Int)), some (.own []), none, none, none, none]) (g1 := g3) (by simp_all! [h3, hat]) rfl ?_
    refine t_forN (n := m) (k := fun i : Nat => AV.int (i : Int)) (g1 := g3) (fun t σ g' => Ket r g' ∧ Oth r g g' ∧ ∃ (p : Nat → Nat → Int) (a6 a7 a8 a9 : Option AV), (∀ i j, i < t → j < c → (p i j).natAbs ≤ max 3 reach) ∧ σ = [some (.ref r), some (.int (most : Int)), some (.int (R : Int)), some (.int (m : Int)), some (.int (c : Int)), some (.own (lpts t c p)), a6, a7, a8, a9]) (by simp_all! [show m < 1000000000 by omega]) ⟨k3, (o1.trans o2).trans o3, fun _ _ => 0, none, none, none, none, fun i j hi => absurd hi (by omega), rfl⟩ ?_ ?_
    · rintro t ht σ g4 ⟨k4, o4, p, a6, a7, a8, a9, hp, rfl⟩
      refine ⟨_, rfl, ?_⟩
      refine t_asgX (r_bf1 ?_)
      have m1 : mulOk 2 (R : Int) = true := mulOk_l (by omega) (by omega)
      have e1 : (2 : Int) * (R : Int) + 1 = ((2 * R + 1 : Nat) : Int) := by omega
      refine r_draw AV.int (fun g' => Ket r g' ∧ Oth r g g') (fun x => x.natAbs ≤ R) (xs := List.range c) (g1 := g4) (by simp_all! [show c < 1000000000 by omega]; rfl) ⟨k4, o4⟩ (by rw [List.length_range]; exact le_sz (by omega)) ?_ ?_
      · rintro j _ g5 ⟨k5, o5⟩
        obtain ⟨v, g6, h6, hv, k6, o6⟩ := sip n (2 * R + 1) r (by omega) (by omega) g5 k5
        exact ⟨_, rfl, .of (v := .int ((v : Int) - (R : Int))) (g := g6) (by simp_all! [m1, e1, h6]) ⟨(v : Int) - (R : Int), rfl, by omega, k6, o5.trans o6⟩⟩
      rintro l g5 hl hlz ⟨k5, o5⟩
      rw [List.length_range] at hl
      have el : l.map AV.int = (List.range c).map fun j => AV.int (l.getD j 0) := by rw [map_rng AV.int 0 l, hl]
      have hq : ∀ j, j < c → (l.getD j 0).natAbs ≤ R := by
        intro j hj
        rw [List.getD_eq_getElem?_getD, List.getElem?_eq_getElem (by omega)]
        exact hlz _ (List.getElem_mem _)
      rw [el]
      generalize hw : (fun j => l.getD j 0) = q
      have hwj : ∀ j, l.getD j 0 = q j := fun j => by rw [← hw]
      simp only [hwj] at hq ⊢
      clear hw hwj el hlz hl
      refine ⟨row c q, rfl, [some (.ref r), some (.int (most : Int)), some (.int (R : Int)), some (.int (m : Int)), some (.int (c : Int)), some (.own (lpts t c p)), some (.int (t : Int)), some (row c q), a8, a9], g5, rfl, ?_⟩
      obtain ⟨v6, g6, h6, hv6, k6, o6⟩ := sip n 6 r (by omega) (by omega) g5 k5
      have h6 : callN P (n + 1) 184 [.ref r, .int 6] g5 = .ok (.int (v6 : Int)) g6 := h6
      have hnil : eqA (.bor false (lpts t c p)) (.own []) = some (decide (t = 0)) := by
        have d1 : dat 60 (.bor false (lpts t c p)) = true := all_dat 58 t c p
        have d2 : dat 60 (.own []) = true := rfl
        simp only [eqA, d1, d2, Bool.and_self, if_true, eqv]
        cases t with
        | zero => rfl
        | succ t =>
          unfold lpts
          rw [List.range_succ_eq_map, List.map_cons]
          rfl
      obtain ⟨b, hb, hbt⟩ : ∃ b : Bool, evE P (callN P (n + 1)) (.and (.cmp .Eq (.call 184 (.cons false (.var 0) (.cons false (.lit (.int 6)) .nil)) .nil [] []) (.lit (.int 0))) (.cmp .NotEq (.var 5) (.lst false .nil))) [some (.ref r), some (.int (most : Int)), some (.int (R : Int)), some (.int (m : Int)), some (.int (c : Int)), some (.own (lpts t c p)), some (.int (t : Int)), some (row c q), a8, a9] g5 = .ok (.bl b) g6 ∧ (b = true → 1 ≤ t) := by
        by_cases hz : (v6 : Int) = 0
        · refine ⟨!decide (t = 0), by simp_all! [h6, hz, hnil], fun e => ?_⟩
          have : decide (t = 0) = false := by cases hd : decide (t = 0) <;> simp_all
          have := of_decide_eq_false this
          omega
        · exact ⟨false, by simp_all! [h6, hz], fun e => by cases e⟩
      refine t_asg (v := .bl b) (σ1 := [some (.ref r), some (.int (most : Int)), some (.int (R : Int)), some (.int (m : Int)), some (.int (c : Int)), some (.own (lpts t c p)), some (.int (t : Int)), some (row c q), a8, some (.bl b)]) (g1 := g6) (g2 := g6) hb rfl ?_
      have hlen : (lpts t c p).length < Ev.sizeLine := by
        rw [List.length_map, List.length_range]
        exact Nat.lt_of_lt_of_le (show t < 1000 by omega) (le_sz (by omega))
      have hlen2 : (lpts t c p).length ≤ Ev.sizeLine := Nat.le_of_lt hlen
      cases b with
      | true =>
        have ht1 := hbt rfl
        obtain ⟨v7, g7, h7, hv7, k7, o7⟩ := sip n t r ht1 (by omega) g6 k6
        have hat7 : atI (lpts t c p) (v7 : Int) = some (row c (p v7)) := qat_get (by unfold lpts; rw [List.getElem?_map, List.getElem?_range hv7]; rfl)
        refine t_appO (xs := lpts t c p) (v := row c (p v7)) (w := row c (p v7)) (g1 := g7) rfl (by simp_all! [h7, hat7]) rfl hlen (t_nil ⟨k7, ((o5.trans o6).trans o7), _, some (.int (t : Int)), some (row c q), a8, some (.bl true), ?_, by rw [snocP]; rfl⟩)
        intro i j hi hj
        split
        · exact hp v7 j hv7 hj
        · exact hp i j (by omega) hj
      | false =>
        refine t_appO (xs := lpts t c p) (v := row c q) (w := row c q) (g1 := g6) rfl (by simp_all! []) rfl hlen (t_nil ⟨k6, o5.trans o6, _, some (.int (t : Int)), some (row c q), a8, some (.bl false), ?_, by rw [snocP]; rfl⟩)
        intro i j hi hj
        split
        · exact Nat.le_trans (hq j hj) hR2
        · exact hp i j (by omega) hj
    · rintro σ g4 ⟨k4, o4, p, a6, a7, a8, a9, hp, rfl⟩
      exact t_retT rfl ⟨m, c, p, rfl, by omega, by omega, by omega, by omega, hp, k4, o4⟩
  obtain ⟨v, g', h, m, c, p, rfl, h1, h2, h3, h4, h5, h6, h7⟩ := key.get
  exact ⟨m, c, p, g', h, h1, h2, h3, h4, h5, h6, h7⟩

end My
end

section
set_option Elab.async false
set_option linter.all false
set_option maxRecDepth 100000
set_option maxHeartbeats 1600000
set_option pp.deepTerms false
set_option pp.deepTerms.threshold 9
open Ev PySem
namespace My
open LA
theorem sq2 (x : Int) : x ^ Int.toNat 2 = x * x := by
  show x ^ 2 = x * x
  rw [Int.pow_succ, Int.pow_succ, Int.pow_zero, Int.one_mul]
theorem powOk2 {x : Int} (h : x.natAbs ≤ 2000000) : powOk x 2 = true := by
  have h1 : x.natAbs.log2 ≤ 20 := by
    by_cases e : x.natAbs = 0
    · rw [e]; decide
    · have : x.natAbs.log2 < 21 := (Nat.log2_lt e).mpr (by omega)
      omega
  unfold powOk
  rw [Bool.and_eq_true, Bool.or_eq_true]
  exact ⟨by decide, .inr (decide_eq_true (by omega))⟩
theorem law_rowsK {m c : Nat} {p : Nat → Nat → Int} (hm : m ≤ 1000) (hc : c ≤ 1000) (hp : ∀ i j, i < m → j < c → (p i j).natAbs ≤ 1000000) (n : Nat) (g : G) : callN P (n + 1) 4 [.lst (lpts m c p)] g = .ok (tab m fun i j => sqd c (p i) (p j)) g := by
  refine t_eq f4 rfl rfl ?_
  show TrS (evSs P (callN P n) e4.body [some (.lst (lpts m c p)), none, none, none, none] g) _ _
  have hszm : m ≤ Ev.sizeLine := le_sz (by omega)
  have hszc : c ≤ Ev.sizeLine := le_sz (by omega)
  refine t_asg (v := .own []) (σ1 := [some (.lst (lpts m c p)), some (.own []), none, none, none]) (g1 := g) (g2 := g) rfl rfl ?_
  refine t_forN (n := m) (k := fun i : Nat => row c (p i)) (g1 := g) (fun t σ g' => g' = g ∧ ∃ (a2 a3 a4 : Option AV), σ = [some (.lst (lpts m c p)), some (.own ((List.range t).map fun i => row m fun j => sqd c (p i) (p j))), a2, a3, a4]) (by simp_all! []) ⟨rfl, none, none, none, rfl⟩ ?_ ?_
  · rintro t ht σ g' ⟨rfl, a2, a3, a4, rfl⟩
    refine ⟨_, rfl, ?_⟩
    refine t_appO (xs := (List.range t).map fun i => row m fun j => sqd c (p i) (p j)) (v := row m fun j => sqd c (p t) (p j)) (w := row m fun j => sqd c (p t) (p j)) (g1 := g') rfl ?_ rfl (by rw [List.length_map, List.length_range]; exact Nat.lt_of_lt_of_le (show t < 1001 by omega) (le_sz (by omega))) (t_nil ⟨rfl, some (row c (p t)), a3, a4, ?_⟩)
    rotate_left
    · rw [show ((List.range t).map fun i => row m fun j => sqd c (p i) (p j)) ++ [row m fun j => sqd c (p t) (p j)] = (List.range (t + 1)).map fun i => row m fun j => sqd c (p i) (p j) by rw [List.range_succ, List.map_append]; rfl]
      rfl
    simp_all! []
    rw [compL_map (h := fun j => AV.int (sqd c (p t) (p j)))]
    rotate_left
    · intro j hj
      have hj := List.mem_range.mp hj
      simp_all! [show c < 1000000000 by omega]
      rw [compL_map (h := fun k => AV.int ((p t k - p j k) * (p t k - p j k)))]
      rotate_left
      · intro k hk
        have hk := List.mem_range.mp hk
        have b1 := hp t k ht hk
        have b2 := hp j k hj hk
        have hpo : powOk (p t k - p j k) 2 = true := powOk2 (by omega)
        simp_all! [hk, hpo, sq2]
      have hsum := qsum_map g' (fun k => (p t k - p j k) * (p t k - p j k)) (List.range c)
      simp_all! [hszc, hsum, sum_range]
      rfl
    simp_all! [hszm]
  · rintro σ g' ⟨rfl, a2, a3, a4, rfl⟩
    exact t_ret (v := tab m fun i j => sqd c (p i) (p j)) (g1 := g') (by simp_all! []) rfl ⟨rfl, rfl⟩

end My
end

section
set_option Elab.async false
set_option linter.all false
set_option maxRecDepth 100000
set_option maxHeartbeats 1600000
set_option pp.deepTerms false
set_option pp.deepTerms.threshold 9
open Ev PySem
namespace My
/-! ### divisor, common_of -/
theorem fmod_lt {a b : Int} (hb : b ≠ 0) : (a.fmod b).natAbs < b.natAbs := by
  rcases Int.lt_or_gt_of_ne hb with h | h
  · have e := Int.neg_fmod_neg (-a) (-b)
    rw [Int.neg_neg, Int.neg_neg] at e
    have h1 := Int.fmod_nonneg_of_pos (-a) (show 0 < -b by omega)
    have h2 := Int.fmod_lt_of_pos (-a) (show 0 < -b by omega)
    rw [e]
    omega
  · have h1 := Int.fmod_nonneg_of_pos a h
    have h2 := Int.fmod_lt_of_pos a h
    omega
theorem gcd_fmod (a b : Int) : Int.gcd b (a.fmod b) = Int.gcd a b := by
  rw [Int.fmod_def, Int.gcd_comm a b]
  exact Int.gcd_sub_mul_left_right ..
theorem divisor (n : Nat) (a b : Int) (hb : b.natAbs < 2 ^ 9000) (g : G) : callN P (n + 1) 71 [.int a, .int b] g = .ok (.int (Int.gcd a b : Int)) g := by
  refine t_eq f71 rfl rfl ?_
  simp -implicitDefEqProofs only [n71, startA, List.map, List.length, List.replicate, List.cons_append, List.nil_append, Nat.reduceAdd, Nat.reduceSub, Nat.zero_add]
  refine t_whl (n := b.natAbs) (fun m σ g' => g' = g ∧ ∃ x y : Int, σ = [some (.int x), some (.int y)] ∧ y.natAbs = m ∧ Int.gcd x y = Int.gcd a b) ⟨rfl, a, b, rfl, rfl, rfl⟩ (Nat.lt_trans hb (Nat.pow_lt_pow_right (by decide) (by decide))) ?_
  rintro m σ g' ⟨rfl, x, y, rfl, rfl, hg⟩
  refine ⟨decide (y ≠ 0), g', by simp_all! [decide_not], ?_, ?_⟩
  · intro h
    have h := of_decide_eq_true h
    refine t_par (vs := [.int y, .int (x.fmod y)]) (g1 := g') (by simp_all! [show decide (y ≠ 0) = true from decide_eq_true h]) rfl (t_nil ⟨(x.fmod y).natAbs, fmod_lt h, rfl, y, x.fmod y, rfl, rfl, ?_⟩)
    rw [gcd_fmod, hg]
  · intro h
    have h : y = 0 := by simpa using h
    subst h
    refine t_ret (v := .int (if x < 0 then -x else x)) (g1 := g') (by simp_all! []) rfl ⟨?_, rfl⟩
    rw [← hg, Int.gcd_zero_right]
    congr 1
    split <;> omega

end My
end

section
set_option Elab.async false
set_option linter.all false
set_option maxRecDepth 100000
set_option maxHeartbeats 1600000
set_option pp.deepTerms false
set_option pp.deepTerms.threshold 9
open Ev PySem
namespace My
open LA
abbrev lrow (n : Nat) (f : Nat → Int) : AV := .lst ((List.range n).map fun j => .int (f j))
abbrev lmat (n : Nat) (R : Nat → Nat → Int) : AV := .lst ((List.range n).map fun i => lrow n (R i))
/-- twice the products, the first thing at nought -/
def form (D : Nat → Nat → Int) : Mat := fun i j => D 0 (i + 1) + D 0 (j + 1) - D (i + 1) (j + 1)
theorem rng_from1 {m : Nat} (h : m < 1000000) : rngA [.int 1, .int ((m + 1 : Nat) : Int)] = some ((List.range m).map fun i : Nat => AV.int ((i + 1 : Nat) : Int)) := by
  have e := qrng2 (a := 1) (b := m + 1) (by omega) (by omega)
  have e2 : m + 1 - 1 = m := by omega
  rw [e2] at e
  have e3 : (List.range m).map (fun i : Nat => AV.int ((1 + i : Nat) : Int)) = (List.range m).map fun i : Nat => AV.int ((i + 1 : Nat) : Int) := by
    apply List.map_congr_left
    intro i _
    rw [Nat.add_comm 1 i]
  rw [e3] at e
  exact e
theorem form_of {m : Nat} {D : Nat → Nat → Int} (hm : m + 1 ≤ 8) (n : Nat) (g : G) : callN P (n + 1) 61 [tab (m + 1) D] g = .ok (.own ((List.range m).map fun i => lrow m (form D i))) g := by
  refine t_eq f61 rfl rfl ?_
  simp -implicitDefEqProofs only [n61, startA, List.map, List.length, List.replicate, List.cons_append, List.nil_append, Nat.reduceAdd, Nat.reduceSub, Nat.zero_add]
  have hsz : m ≤ Ev.sizeLine := le_sz (by omega)
  have h0 : atI ((List.range (m + 1)).map fun i => row (m + 1) (D i)) 0 = some (row (m + 1) (D 0)) := qat_rng (k := 0) _ (by omega)
  refine t_asg (v := row (m + 1) (D 0)) (σ1 := [some (tab (m + 1) D), some (row (m + 1) (D 0)), none, none, none]) (g1 := g) (g2 := g) (by simp_all! [h0]) rfl ?_
  refine t_asg (v := .own ((List.range m).map fun i : Nat => AV.int ((i + 1 : Nat) : Int))) (σ1 := [some (tab (m + 1) D), some (row (m + 1) (D 0)), some (.lst ((List.range m).map fun i : Nat => AV.int ((i + 1 : Nat) : Int))), none, none]) (g1 := g) (g2 := g) (by simp_all! [rng_from1 (show m < 1000000 by omega), hsz]) rfl ?_
  apply t_ret
  · simp_all! []
    rw [compL_map]
    rotate_left
    · intro i hi
      have hi := List.mem_range.mp hi
      simp_all! []
      rw [compL_map]
      rotate_left
      · intro j hj
        have hj := List.mem_range.mp hj
        simp_all! [show i + 1 < m + 1 by omega, show j + 1 < m + 1 by omega]
        rfl
      simp_all! [hsz]
      rfl
    simp_all! [hsz]
    rfl
  · rfl
  · exact ⟨rfl, rfl⟩
/-- above_nought -/
theorem above_nought {m : Nat} {R : Mat} (hm : m ≤ 8) (n : Nat) (g : G) : ∃ v, callN P (n + 1) 67 [lmat m R] g = .ok v g ∧ ((v = .non ∧ ∀ i, i < m → R i i ≤ 0) ∨ ∃ k : Nat, v = .int (k : Int) ∧ k < m ∧ 0 < R k k) := by
  have key : Tr (callN P (n + 1) 67 [lmat m R] g) (fun v g' => g' = g ∧ ((v = .non ∧ ∀ i, i < m → R i i ≤ 0) ∨ ∃ k : Nat, v = .int (k : Int) ∧ k < m ∧ 0 < R k k)) := by
    refine t_def f67 rfl rfl ?_
    show TrS (evSs P (callN P n) e67.body [some (lmat m R), none, none] g) _ _
    refine t_forN (fun i σ g' => g' = g ∧ (∃ a b, σ = [some (lmat m R), a, b]) ∧ ∀ j, j < i → R j j ≤ 0) (by simp_all! []; rfl) ⟨rfl, ⟨_, _, rfl⟩, by omega⟩ ?_ ?_
    · rintro i hi σ g' ⟨rfl, ⟨a, b, rfl⟩, hz⟩
      refine ⟨_, by simp_all! []; rfl, ?_⟩
      refine t_if (t := decide (0 < R i i)) (g1 := g') (by simp_all! [hi]) ?_ ?_
      · intro h
        exact t_ret (v := .int (i : Int)) rfl rfl ⟨rfl, .inr ⟨i, rfl, hi, of_decide_eq_true h⟩⟩
      · intro h
        have h := of_decide_eq_false h
        refine t_nil (t_nil ⟨rfl, ⟨_, _, rfl⟩, fun j hj => ?_⟩)
        by_cases e : j = i
        · subst e; omega
        · exact hz j (by omega)
    · rintro σ g' ⟨rfl, ⟨a, b, rfl⟩, hz⟩
      exact t_ret (v := .non) rfl rfl ⟨rfl, .inl ⟨rfl, hz⟩⟩
  obtain ⟨v, g', h, rfl, h2⟩ := key.get
  exact ⟨v, h, h2⟩
/-- common_of: a common divisor -/
theorem common_of {m : Nat} {N : Mat} {c : Int} (hm : m ≤ 8) (hc : 0 < c) (hN : ∀ i j, i < m → j < m → bt 9000 (N i j)) (n : Nat) (g : G) :
    ∃ d : Int, callN P (n + 2) 70 [lmat m N, .int c] g = .ok (.int d) g ∧ 0 < d ∧ d ∣ c ∧ ∀ i j, i < m → j < m → d ∣ N i j := by
  have key : Tr (callN P (n + 2) 70 [lmat m N, .int c] g) (fun v g' => g' = g ∧ ∃ d : Int, v = .int d ∧ 0 < d ∧ d ∣ c ∧ ∀ i j, i < m → j < m → d ∣ N i j) := by
    refine t_def f70 rfl rfl ?_
    show TrS (evSs P (callN P (n + 1)) e70.body [some (lmat m N), some (.int c), none, none] g) _ _
    refine t_forN (n := m) (k := fun i => lrow m (N i)) (g1 := g) (fun t σ g' => g' = g ∧ ∃ (d : Int) (a b : Option AV), σ = [some (lmat m N), some (.int d), a, b] ∧ 0 < d ∧ d ∣ c ∧ ∀ i j, i < t → j < m → d ∣ N i j) (by simp_all! []; try rfl) ⟨rfl, c, none, none, rfl, hc, Int.dvd_refl _, fun i j hi => by omega⟩ ?_ ?_
    · rintro t ht σ g' ⟨rfl, d, a, b, rfl, h0, h1, h2⟩
      refine ⟨_, by simp_all! []; rfl, ?_⟩
      refine t_forN (n := m) (k := fun j => .int (N t j)) (g1 := g') (fun u σ g2 => g2 = g' ∧ ∃ (d : Int) (b : Option AV), σ = [some (lmat m N), some (.int d), some (lrow m (N t)), b] ∧ 0 < d ∧ d ∣ c ∧ (∀ i j, i < t → j < m → d ∣ N i j) ∧ ∀ j, j < u → d ∣ N t j) (by simp_all! []; try rfl) ⟨rfl, d, b, rfl, h0, h1, h2, fun j hj => by omega⟩ ?_ ?_
      · rintro u hu σ g2 ⟨rfl, d, b, rfl, h0, h1, h2, h3⟩
        refine ⟨_, by simp_all! []; rfl, ?_⟩
        have hdv := divisor n d (N t u) (hN t u ht hu) g2
        refine t_asg (v := .int (Int.gcd d (N t u) : Int)) (g1 := g2) (by simp_all! [hdv]) rfl (t_nil ⟨rfl, _, _, rfl, ?_, ?_, ?_, ?_⟩)
        · have : Int.gcd d (N t u) ≠ 0 := by
            intro z
            rw [Int.gcd_eq_zero_iff] at z
            omega
          omega
        · exact Int.dvd_trans (Int.gcd_dvd_left ..) h1
        · exact fun i j hi hj => Int.dvd_trans (Int.gcd_dvd_left ..) (h2 i j hi hj)
        · intro j hj
          by_cases e : j = u
          · subst e; exact Int.gcd_dvd_right ..
          · exact Int.dvd_trans (Int.gcd_dvd_left ..) (h3 j (by omega))
      · rintro σ g2 ⟨rfl, d, b, rfl, h0, h1, h2, h3⟩
        refine t_nil ⟨rfl, d, _, b, rfl, h0, h1, fun i j hi hj => ?_⟩
        by_cases e : i = t
        · subst e; exact h3 j hj
        · exact h2 i j (by omega) hj
    · rintro σ g' ⟨rfl, d, a, b, rfl, h0, h1, h2⟩
      exact t_ret (v := .int d) rfl rfl ⟨rfl, d, rfl, h0, h1, h2⟩
  obtain ⟨v, g', h, rfl, d, rfl, h2⟩ := key.get
  exact ⟨d, h, h2⟩

end My
end

section
set_option Elab.async false
set_option linter.all false
set_option maxRecDepth 100000
set_option maxHeartbeats 1600000
set_option pp.deepTerms false
set_option pp.deepTerms.threshold 9
open Ev PySem
namespace My
open LA
/-- without -/
theorem without {m : Nat} {M : Mat} {c : Int} {k b e : Nat} (hm : m ≤ 8) (hk : k < m) (hp : M k k ≠ 0) (hc : 0 < c) (hb : ∀ i j, i < m → j < m → bt b (M i j)) (he : bt e c) (h1 : b ≤ 3000) (h2 : e ≤ 5000) (n : Nat) (g : G) :
    ∃ (M' : Mat) (c' : Int), callN P (n + 3) 65 [lmat m M, .int c, .int (k : Int)] g = .ok (.tup [lmat m M', .int c']) g ∧ Step m M c k M' c' ∧ (∀ i j, i < m → j < m → bt (2 * b + 1) (M' i j)) ∧ bt (e + b) c' := by
  have hsz : m ≤ Ev.sizeLine := le8 hm
  have ha : (if M k k < 0 then -M k k else M k k) = ((M k k).natAbs : Int) := by split <;> omega
  have hs : evE P (callN P (n + 2)) (.ite (.cmp .Gt (.idx (.var 3) (.var 2)) (.lit (.int 0))) (.lit (.int 1)) (.neg (.lit (.int 1)))) [some (lmat m M), some (.int c), some (.int (k : Int)), some (lrow m (M k)), some (.int ((M k k).natAbs : Int)), none, none, none, none, none, none] g = .ok (.int (sg (M k k))) g := by
    unfold sg
    by_cases h : 0 < M k k
    · have h : decide (0 < M k k) = true := by simpa using h
      rw [if_pos (by simpa using h)]
      simp_all! [hk, h]
    · have h : decide (0 < M k k) = false := by simpa using h
      rw [if_neg (by simpa using h)]
      simp_all! [hk, h]
  have hab : bt b ((M k k).natAbs : Int) := (hb k k hk hk).le (by simp)
  have hN : ∀ i j, i < m → j < m → bt (2 * b + 1) (((M k k).natAbs : Int) * M i j - sg (M k k) * M i k * M k j) := by
    intro i j hi hj
    have e1 : bt (2 * b) (((M k k).natAbs : Int) * M i j) := (hab.mul (hb i j hi hj)).mono (by omega)
    have e2 : bt (2 * b) (sg (M k k) * M i k * M k j) := by
      have := (hb i k hi hk).mul (hb k j hk hj)
      refine (bt.le this ?_).mono (show b + b ≤ 2 * b by omega)
      rw [Int.mul_assoc, Int.natAbs_mul]
      have : (sg (M k k)).natAbs = 1 := by unfold sg; split <;> rfl
      rw [this, Nat.one_mul]
      exact Nat.le_refl _
    exact e1.sub e2
  have hca : bt (e + b) (c * ((M k k).natAbs : Int)) := he.mul hab
  have hcp : 0 < c * ((M k k).natAbs : Int) := Int.mul_pos hc (by omega)
  obtain ⟨d, hd1, hd0, hdc, hdN⟩ := common_of (N := fun i j => ((M k k).natAbs : Int) * M i j - sg (M k k) * M i k * M k j) hm hcp (fun i j hi hj => (hN i j hi hj).mono (by omega)) n g
  have hdb : bt (e + b) d := bt_dvd hca (by omega) hdc
  have hdo : divOk d = true := divOk_bt hdb (by omega) (by omega)
  refine ⟨fun i j => (((M k k).natAbs : Int) * M i j - sg (M k k) * M i k * M k j) / d, c * ((M k k).natAbs : Int) / d, ?_, ⟨hk, hp, d, hd0, Int.ediv_mul_cancel hdc, fun i j hi hj => Int.ediv_mul_cancel (hdN i j hi hj)⟩, fun i j hi hj => bt_ediv (hN i j hi hj), bt_ediv hca⟩
  refine t_eq f65 rfl rfl ?_
  show TrS (evSs P (callN P (n + 2)) e65.body [some (lmat m M), some (.int c), some (.int (k : Int)), none, none, none, none, none, none, none, none] g) _ _
  refine t_asg (v := lrow m (M k)) (σ1 := [some (lmat m M), some (.int c), some (.int (k : Int)), some (lrow m (M k)), none, none, none, none, none, none, none]) (g1 := g) (g2 := g) (by simp_all! [hk]) rfl ?_
  refine t_asg (v := .int ((M k k).natAbs : Int)) (σ1 := [some (lmat m M), some (.int c), some (.int (k : Int)), some (lrow m (M k)), some (.int ((M k k).natAbs : Int)), none, none, none, none, none, none]) (g1 := g) (g2 := g) (by simp_all! [hk, ha]) rfl ?_
  refine t_asg (v := .int (sg (M k k))) (σ1 := [some (lmat m M), some (.int c), some (.int (k : Int)), some (lrow m (M k)), some (.int ((M k k).natAbs : Int)), some (.int (sg (M k k))), none, none, none, none, none]) (g1 := g) (g2 := g) hs rfl ?_
  refine t_asg (v := .own []) (σ1 := [some (lmat m M), some (.int c), some (.int (k : Int)), some (lrow m (M k)), some (.int ((M k k).natAbs : Int)), some (.int (sg (M k k))), some (.own []), none, none, none, none]) (g1 := g) (g2 := g) rfl rfl ?_
  refine t_forN (n := m) (k := fun i => lrow m (M i)) (g1 := g) (fun t σ g' => g' = g ∧ ∃ a7 a8 a9 a10, σ = [some (lmat m M), some (.int c), some (.int (k : Int)), some (lrow m (M k)), some (.int ((M k k).natAbs : Int)), some (.int (sg (M k k))), some (.own ((List.range t).map fun i => lrow m fun j => ((M k k).natAbs : Int) * M i j - sg (M k k) * M i k * M k j)), a7, a8, a9, a10]) (by simp_all! []; try rfl) ⟨rfl, _, _, _, _, rfl⟩ ?_ ?_
  · rintro t ht σ g' ⟨rfl, a7, a8, a9, a10, rfl⟩
    refine ⟨_, by simp_all! []; rfl, ?_⟩
    have m1 : ∀ j, j < m → mulOk ((M k k).natAbs : Int) (M t j) = true := fun j hj => mulOk_bt hab (hb t j ht hj) (by omega)
    have m2 : mulOk (sg (M k k)) (M t k) = true := mulOk_bt bt_sg (hb t k ht hk) (by omega)
    have m3 : ∀ j, j < m → mulOk (sg (M k k) * M t k) (M k j) = true := fun j hj => mulOk_bt (bt_sg.mul (hb t k ht hk)) (hb k j hk hj) (by omega)
    refine t_appO (v := .own ((List.range m).map fun j => .int (((M k k).natAbs : Int) * M t j - sg (M k k) * M t k * M k j))) (w := lrow m fun j => ((M k k).natAbs : Int) * M t j - sg (M k k) * M t k * M k j) (xs := (List.range t).map fun i => lrow m fun j => ((M k k).natAbs : Int) * M i j - sg (M k k) * M i k * M k j) (g1 := g') rfl ?_ rfl ?_ (t_nil ⟨rfl, some (lrow m (M t)), a8, a9, a10, ?_⟩)
    · simp_all! [hk]
      rw [compL_map]
      rotate_left
      · intro j hj
        have hj := List.mem_range.mp hj
        simp_all! [hk, hj, m1 j hj, m2, m3 j hj]
        rfl
      simp_all! [hsz]
    · rw [List.length_map, List.length_range]
      have : (8 : Nat) < Ev.sizeLine := by decide
      omega
    · rw [← rng_snoc]
      rfl
  · rintro σ g' ⟨rfl, a7, a8, a9, a10, rfl⟩
    refine t_asg (v := .int (c * ((M k k).natAbs : Int))) (g1 := g') (by simp_all! [mulOk_bt he hab (by omega)]) rfl ?_
    refine t_frz rfl ?_
    refine t_asg (v := .int d) (g1 := g') (by simp_all! [hd1]) rfl ?_
    apply t_ret (v := .tup [lmat m fun i j => (((M k k).natAbs : Int) * M i j - sg (M k k) * M i k * M k j) / d, .int (c * ((M k k).natAbs : Int) / d)]) (g1 := g')
    · simp_all! []
      rw [compL_map]
      rotate_left
      · intro i hi
        have hi := List.mem_range.mp hi
        simp_all! []
        rw [compL_map]
        rotate_left
        · intro j hj
          have hj := List.mem_range.mp hj
          simp_all! [hdo]
          rfl
        simp_all! [hsz]
        rfl
      have fd : ∀ x : Int, x.fdiv d = x / d := fun x => Int.fdiv_eq_ediv_of_nonneg _ (by omega)
      simp_all! [hsz, hdo, fd]
    · rfl
    · exact ⟨rfl, rfl⟩

end My
end

section
set_option Elab.async false
set_option linter.all false
set_option maxRecDepth 100000
set_option maxHeartbeats 1600000
set_option pp.deepTerms false
set_option pp.deepTerms.threshold 9
open Ev PySem
namespace My
open LA
/-- a step as the program keeps it -/
abbrev stp (n : Nat) (s : Nat × Vec × Int) : AV := .tup [.int (s.1 : Int), row n s.2.1, .int s.2.2]
abbrev split (n : Nat) (l : List (Nat × Vec × Int)) (R : Mat) : AV := .ins 1 [4, 5] [.lst (l.map (stp n)), lmat n R]
/-- how great numbers are behind t steps -/
def bb (t : Nat) : Nat := 2 ^ t * 32
theorem bb_succ (t : Nat) : bb (t + 1) = 2 * bb t := by unfold bb; rw [Nat.pow_succ]; omega
theorem bb_le {t : Nat} (h : t ≤ 6) : bb t ≤ 2048 := by
  unfold bb
  have : 2 ^ t ≤ 2 ^ 6 := Nat.pow_le_pow_right (by decide) h
  omega
/-- what holds behind steps -/
structure At (n : Nat) (R0 : Mat) (l : List (Nat × Vec × Int)) (R : Mat) (c : Int) : Prop where
  run : Run n R0 1 l R c
  len : l.length + nzr n R n ≤ n
  b : ∀ i j, i < n → j < n → bt (bb l.length - 1) (R i j)
  e : bt (bb l.length) c
  ms : ∀ s ∈ l, s.1 < n ∧ 0 < s.2.1 s.1 ∧ (∀ j, j < n → bt 2048 (s.2.1 j)) ∧ 0 < s.2.2 ∧ bt 2048 s.2.2
  mb : ∀ (t : Nat) (s : Nat × Vec × Int), l[t]? = some s → ∀ j, j < n → bt (bb t - 1) (s.2.1 j)
theorem Tb.form_bt {m : Nat} {D : Nat → Nat → Int} (T : Tb (m + 1) D) : ∀ i j, i < m → j < m → bt 31 (form D i j) := by
  intro i j hi hj
  unfold form bt
  have a1 := T.b0 0 (i + 1) (by omega) (by omega)
  have a2 := T.b1 0 (i + 1) (by omega) (by omega)
  have a3 := T.b0 0 (j + 1) (by omega) (by omega)
  have a4 := T.b1 0 (j + 1) (by omega) (by omega)
  have a5 := T.b0 (i + 1) (j + 1) (by omega) (by omega)
  have a6 := T.b1 (i + 1) (j + 1) (by omega) (by omega)
  have : (2 : Nat) ^ 31 = 2147483648 := by decide
  omega
theorem Tb.form_sym {m : Nat} {D : Nat → Nat → Int} (T : Tb (m + 1) D) : Sym m (form D) := by
  intro i j hi hj
  unfold form
  rw [T.sy (i + 1) (j + 1) (by omega) (by omega)]
  omega
theorem At.start {m : Nat} {D : Nat → Nat → Int} (T : Tb (m + 1) D) : At m (form D) [] (form D) 1 := by
  refine ⟨.nil, ?_, T.form_bt, ?_, by simp, by simp⟩
  · have := nzr_le m (form D) m
    simpa using this
  · show (1 : Nat) < 2 ^ 32
    decide
theorem frz_lrow (g : G) (k m : Nat) (D : Nat → Int) : frzV g (k + 2) (lrow m D) = some (lrow m D) := by
  show (((List.range m).map fun j => AV.int (D j)).mapM (frzV g (k + 1))).map AV.lst = _
  rw [frz_map g (k + 1) (fun j => AV.int (D j)) _ fun _ _ => rfl]
  rfl
theorem frz_lmat (g : G) (k m : Nat) (D : Nat → Nat → Int) : frzV g (k + 3) (lmat m D) = some (lmat m D) := by
  show (((List.range m).map fun i => lrow m (D i)).mapM (frzV g (k + 2))).map AV.lst = _
  rw [frz_map g (k + 2) (fun i => lrow m (D i)) _ fun i _ => frz_lrow g k m (D i)]
  rfl
theorem frz_stp (g : G) (k n : Nat) (s : Nat × Vec × Int) : frzV g (k + 4) (stp n s) = some (stp n s) := by
  show ([AV.int (s.1 : Int), row n s.2.1, .int s.2.2].mapM (frzV g (k + 3))).map AV.tup = _
  rw [List.mapM_cons, List.mapM_cons, List.mapM_cons, List.mapM_nil, frz_row g (k + 1)]
  rfl
theorem pure_lmat (m : Nat) (D : Nat → Nat → Int) : (lmat m D).pure = true := pure_map _ _ fun _ _ => pure_map _ _ fun _ _ => rfl
theorem split_init {m : Nat} {D : Nat → Nat → Int} (T : Tb (m + 1) D) (n : Nat) : ∃ (l : List (Nat × Vec × Int)) (R : Mat) (c : Int), At m (form D) l R c ∧ (∀ i, i < m → R i i ≤ 0) ∧
    callN P (n + 4) 72 [.ref 0, tab (m + 1) D] [some (.ins 1 [] [])] = .ok .non [some (.ins 1 [4, 5] [.ref 1, lmat m R]), some (.lst (l.map (stp m)))] := by
  have hm : m + 1 ≤ 8 := T.hi
  have key : Tr (callN P (n + 4) 72 [.ref 0, tab (m + 1) D] [some (.ins 1 [] [])]) (fun v g' => ∃ (l : List (Nat × Vec × Int)) (R : Mat) (c : Int), At m (form D) l R c ∧ (∀ i, i < m → R i i ≤ 0) ∧ v = .non ∧ g' = [some (.ins 1 [4, 5] [.ref 1, lmat m R]), some (.lst (l.map (stp m)))]) := by
    refine t_def f72 rfl rfl ?_
    show TrS (evSs P (callN P (n + 3)) e72.body [some (.ref 0), some (tab (m + 1) D), none, none, none] [some (.ins 1 [] [])]) _ _
    refine t_asg (v := .ref 1) (σ1 := [some (.ref 0), some (tab (m + 1) D), none, none, none]) (g1 := [some (.ins 1 [] []), some (.lst [])]) (g2 := [some (.ins 1 [4] [.ref 1]), some (.lst [])]) rfl rfl ?_
    refine t_par (vs := [.own ((List.range m).map fun i => lrow m (form D i)), .int 1]) (σ1 := [some (.ref 0), some (tab (m + 1) D), some (lmat m (form D)), some (.int 1), none]) (g1 := [some (.ins 1 [4] [.ref 1]), some (.lst [])]) (by simp_all! [form_of hm]) rfl ?_
    obtain ⟨v, hv, hv2⟩ := above_nought (R := form D) (m := m) (by omega) (n + 2) [some (.ins 1 [4] [.ref 1]), some (.lst [])]
    have hvs : v.back = some v ∧ v.put false = some v := by rcases hv2 with ⟨rfl, _⟩ | ⟨k, rfl, _⟩ <;> exact ⟨rfl, rfl⟩
    refine t_asg (v := v) (σ1 := [some (.ref 0), some (tab (m + 1) D), some (lmat m (form D)), some (.int 1), some v]) (g1 := [some (.ins 1 [4] [.ref 1]), some (.lst [])]) (g2 := [some (.ins 1 [4] [.ref 1]), some (.lst [])]) (by simp_all! [hv, hvs.1]) (by simp_all! [hvs.2]) ?_
    refine t_whl (n := nzr m (form D) m) (fun z σ g' => ∃ (l : List (Nat × Vec × Int)) (R : Mat) (c : Int) (v : AV), z = nzr m R m ∧ At m (form D) l R c ∧ σ = [some (.ref 0), some (tab (m + 1) D), some (lmat m R), some (.int c), some v] ∧ g' = [some (.ins 1 [4] [.ref 1]), some (.lst (l.map (stp m)))] ∧ ((v = .non ∧ ∀ i, i < m → R i i ≤ 0) ∨ ∃ k : Nat, v = .int (k : Int) ∧ k < m ∧ 0 < R k k)) ⟨[], form D, 1, v, rfl, At.start T, rfl, rfl, hv2⟩ (fuel_big (Nat.lt_of_le_of_lt (nzr_le m (form D) m) (Nat.lt_of_lt_of_le (show m < 2 ^ 3 by omega) (Nat.pow_le_pow_right (by decide) (by decide))))) ?_
    rintro z σ g' ⟨l, R, c, v, rfl, hA, rfl, rfl, hv⟩
    rcases hv with ⟨rfl, hd⟩ | ⟨k, rfl, hk, hp⟩
    · refine ⟨false, _, rfl, (fun h => by cases h), fun _ => ?_⟩
      refine t_asg (v := lmat m R) (σ1 := [some (.ref 0), some (tab (m + 1) D), some (lmat m R), some (.int c), some .non]) (g1 := [some (.ins 1 [4] [.ref 1]), some (.lst (l.map (stp m)))]) (g2 := [some (.ins 1 [4, 5] [.ref 1, lmat m R]), some (.lst (l.map (stp m)))]) rfl rfl (t_nil ⟨l, R, c, hA, hd, rfl, rfl⟩)
    · refine ⟨true, _, rfl, fun _ => ?_, fun h => by cases h⟩
      have hlen := hA.len
      have hnz : 0 < nzr m R m := by
        have := nzr_lt (n := m) (k := k) (R := R) (R' := fun _ _ => 0) (m := m) (fun i _ _ j _ => rfl) hk (fun h => by have := h k hk; omega) (fun j _ => rfl)
        omega
      have hl6 : l.length ≤ 6 := by omega
      have hbb := bb_le hl6
      obtain ⟨R', c', h1, h2, h3, h4⟩ := without (m := m) (M := R) (c := c) (k := k) (b := bb l.length - 1) (e := bb l.length) (by omega) hk (by omega) (hA.run.cpos (by decide)) hA.b hA.e (by omega) (by omega) n [some (.ins 1 [4] [.ref 1]), some (.lst ((l ++ [(k, R k, c)]).map (stp m)))]
      refine t_app (n := 1) (v := stp m (k, R k, c)) (w := stp m (k, R k, c)) (xs := l.map (stp m)) (ys := l.map (stp m)) (g1 := [some (.ins 1 [4] [.ref 1]), some (.lst (l.map (stp m)))]) (g2 := [some (.ins 1 [4] [.ref 1]), some (.lst (l.map (stp m)))]) ?_ rfl ?_ rfl rfl ?_ ?_
      · rfl
      · simp_all! [hk]
      · rw [List.length_map]
        have : (8 : Nat) < Ev.sizeLine := by decide
        omega
      have eg : ([some (.ins 1 [4] [.ref 1]), some (.lst (l.map (stp m)))] : G).set 1 (some (.lst (l.map (stp m) ++ [stp m (k, R k, c)]))) = [some (.ins 1 [4] [.ref 1]), some (.lst ((l ++ [(k, R k, c)]).map (stp m)))] := by
        rw [List.map_append]; rfl
      rw [eg]
      have hpos : 0 < bb l.length := by unfold bb; have := Nat.two_pow_pos l.length; omega
      refine t_asg (v := .tup [lmat m R', .int c']) (σ1 := [some (.ref 0), some (tab (m + 1) D), some (lmat m R'), some (.int c'), some (.int (k : Int))]) (g1 := [some (.ins 1 [4] [.ref 1]), some (.lst ((l ++ [(k, R k, c)]).map (stp m)))]) (g2 := [some (.ins 1 [4] [.ref 1]), some (.lst ((l ++ [(k, R k, c)]).map (stp m)))]) (by simp_all! [h1]) rfl ?_
      obtain ⟨v, hv, hv2⟩ := above_nought (R := R') (m := m) (by omega) (n + 2) [some (.ins 1 [4] [.ref 1]), some (.lst ((l ++ [(k, R k, c)]).map (stp m)))]
      have hvs : v.back = some v ∧ v.put false = some v := by rcases hv2 with ⟨rfl, _⟩ | ⟨k, rfl, _⟩ <;> exact ⟨rfl, rfl⟩
      refine t_asg (v := v) (σ1 := [some (.ref 0), some (tab (m + 1) D), some (lmat m R'), some (.int c'), some v]) (g1 := [some (.ins 1 [4] [.ref 1]), some (.lst ((l ++ [(k, R k, c)]).map (stp m)))]) (g2 := [some (.ins 1 [4] [.ref 1]), some (.lst ((l ++ [(k, R k, c)]).map (stp m)))]) (by simp_all! [hv, hvs.1]) (by simp_all! [hvs.2]) (t_nil ⟨nzr m R' m, h2.nzr_lt, l ++ [(k, R k, c)], R', c', v, rfl, ?_, rfl, rfl, hv2⟩)
      refine ⟨.snoc hA.run hp h2, ?_, fun i j hi hj => ?_, ?_, fun s hs => ?_, fun t s hs => ?_⟩
      · have := h2.nzr_lt
        rw [List.length_append]
        simp only [List.length_cons, List.length_nil]
        omega
      · rw [List.length_append]
        simp only [List.length_cons, List.length_nil, Nat.zero_add]
        rw [bb_succ]
        exact (h3 i j hi hj).mono (by omega)
      · rw [List.length_append]
        simp only [List.length_cons, List.length_nil, Nat.zero_add]
        rw [bb_succ]
        exact h4.mono (by omega)
      · rcases List.mem_append.mp hs with hs | hs
        · exact hA.ms s hs
        · simp only [List.mem_cons, List.not_mem_nil, or_false] at hs
          subst hs
          exact ⟨hk, hp, fun j hj => (hA.b k j hk hj).mono (by omega), hA.run.cpos (by decide), hA.e.mono (by omega)⟩
      · by_cases ht : t < l.length
        · rw [List.getElem?_append_left ht] at hs
          exact hA.mb t s hs
        · rw [List.getElem?_append_right (by omega)] at hs
          have ht2 : t = l.length := by
            by_cases e : t = l.length
            · exact e
            · rw [List.getElem?_eq_none (by simp; omega)] at hs; cases hs
          subst ht2
          rw [Nat.sub_self] at hs
          simp only [List.getElem?_cons_zero, Option.some.injEq] at hs
          subst hs
          exact fun j hj => hA.b k j hk hj
  obtain ⟨v, g', h, l, R, c, h1, h2, rfl, rfl⟩ := key.get
  exact ⟨l, R, c, h1, h2, h⟩
/-- a table taken apart -/
theorem make_split {m : Nat} {D : Nat → Nat → Int} (T : Tb (m + 1) D) (n : Nat) : ∃ (l : List (Nat × Vec × Int)) (R : Mat) (c : Int), At m (form D) l R c ∧ (∀ i, i < m → R i i ≤ 0) ∧
    ∀ g, makeA P (callN P (n + 4)) 1 true true [tab (m + 1) D] g = .ok (split m l R) g := by
  obtain ⟨l, R, c, h1, h2, h3⟩ := split_init T n
  refine ⟨l, R, c, h1, h2, fun g => ?_⟩
  have h : frzV [some (.ins 1 [4, 5] [.ref 1, lmat m R]), some (.lst (l.map (stp m)))] 12 (.ref 0) = some (split m l R) := by
    have hl : frzV [some (.ins 1 [4, 5] [.ref 1, lmat m R]), some (.lst (l.map (stp m)))] 11 (.ref 1) = some (.lst (l.map (stp m))) := by
      show ((l.map (stp m)).mapM (frzV _ 10)).map AV.lst = _
      rw [frz_map _ 10 (stp m) l fun s _ => frz_stp _ 6 m s]
      rfl
    rw [frz_ref 11, List.mapM_cons, List.mapM_cons, List.mapM_nil, hl, frz_lmat _ 8]
    rfl
  have hp : (split m l R).pure = true := by
    show AV.pures [.lst (l.map (stp m)), lmat m R] = true
    rw [AV.pures, AV.pures, AV.pures, pure_lmat]
    have : (AV.lst (l.map (stp m))).pure = true := pure_map _ _ fun s _ => by
      show AV.pures [.int (s.1 : Int), row m s.2.1, .int s.2.2] = true
      rw [AV.pures, AV.pures, AV.pures, AV.pures, pure_row]
      rfl
    rw [this]
    rfl
  unfold makeA
  simp only [c1, if_true, h3, h, Option.bind_some, hp, Ev.R.opt_some]

end My
end

section
set_option Elab.async false
set_option linter.all false
set_option maxRecDepth 100000
set_option maxHeartbeats 1600000
set_option pp.deepTerms false
set_option pp.deepTerms.threshold 9
open Ev PySem
namespace My
open LA
/-- nothing is left -/
def zerB (m : Nat) (R : Mat) : Bool := (List.range m).all fun i => (List.range m).all fun j => decide (R i j = 0)
theorem zerB_iff {m : Nat} {R : Mat} : zerB m R = true ↔ ∀ i j, i < m → j < m → R i j = 0 := by
  simp only [zerB, List.all_eq_true, List.mem_range, decide_eq_true_eq]
  exact ⟨fun h i j hi hj => h i hi j hj, fun h i hi j hj => h i j hi hj⟩
theorem all_flat {α β : Type} (xs : List α) (f : α → List β) (p : β → Bool) : (xs.flatMap f).all p = xs.all fun x => (f x).all p := by
  induction xs with
  | nil => rfl
  | cons x xs ih => rw [List.flatMap_cons, List.all_append, ih, List.all_cons]
theorem attr_split4 {m : Nat} {l : List (Nat × Vec × Int)} {R : Mat} (call : CallT) (g : G) : attrA P call (split m l R) 4 g = .ok (.lst (l.map (stp m))) g := by
  unfold attrA fldsA split
  simp only [c1]
  rfl
theorem attr_split5 {m : Nat} {l : List (Nat × Vec × Int)} {R : Mat} (call : CallT) (g : G) : attrA P call (split m l R) 5 g = .ok (lmat m R) g := by
  unfold attrA fldsA split
  simp only [c1]
  rfl
theorem mth_split {m : Nat} {l : List (Nat × Vec × Int)} {R : Mat} (g : G) : mthA P (split m l R) 1 g = some 73 := by
  unfold mthA fldsA split
  simp only [c1]
  rfl
theorem is_whole {m : Nat} {l : List (Nat × Vec × Int)} {R : Mat} (hm : m ≤ 8) (n : Nat) (g : G) : callN P (n + 1) 73 [split m l R] g = .ok (.bl (zerB m R)) g := by
  refine t_eq f73 rfl rfl ?_
  simp -implicitDefEqProofs only [n73, startA, List.map, List.length, List.replicate, List.cons_append, List.nil_append, Nat.reduceAdd, Nat.reduceSub, Nat.zero_add]
  have h1 : (split m l R).look = split m l R := rfl
  have hz : ((List.range m).flatMap fun i => (List.range m).map fun j => AV.bl (decide (R i j = 0))).length ≤ Ev.sizeLine := by
    rw [List.length_flatMap]
    simp only [List.length_map, List.length_range]
    rw [List.map_const', List.sum_replicate_nat, List.length_range]
    refine le_sz ?_
    have : m * m ≤ 8 * 8 := Nat.mul_le_mul hm hm
    omega
  apply t_ret
  · simp_all! [attr_split5]
    rw [compL_flat (h := fun i => (List.range m).map fun j => AV.bl (decide (R i j = 0)))]
    · rw [Ev.R.bind_ok, qmk hz]
      have e : ((List.range m).flatMap fun i => (List.range m).map fun j => AV.bl (decide (R i j = 0))) = ((List.range m).flatMap fun i => (List.range m).map fun j => decide (R i j = 0)).map AV.bl := by
        rw [List.map_flatMap]
        simp only [List.map_map]
        rfl
      rw [e]
      have h2 := qall_map g (fun b : Bool => b) ((List.range m).flatMap fun i => (List.range m).map fun j => decide (R i j = 0))
      simp_all! [h2]
      rfl
    · intro i hi
      simp_all! []
      rw [compL_map]
      intro j hj
      have hj := List.mem_range.mp hj
      simp_all! []
  · rfl
  · refine ⟨?_, rfl⟩
    rw [all_flat]
    simp only [List.all_map]
    rfl
/-- dimension_of: the number of steps, or None -/
theorem dimension_of {m : Nat} {D : Nat → Nat → Int} (T : Tb (m + 1) D) (n : Nat) : ∃ (l : List (Nat × Vec × Int)) (R : Mat) (c : Int), At m (form D) l R c ∧ (∀ i, i < m → R i i ≤ 0) ∧
    ∀ g, callN P (n + 5) 59 [tab (m + 1) D] g = .ok (if zerB m R then .int (l.length : Int) else .non) g := by
  obtain ⟨l, R, c, h1, h2, h3⟩ := make_split T n
  refine ⟨l, R, c, h1, h2, fun g => ?_⟩
  have hm := T.hi
  refine t_eq f59 rfl rfl ?_
  show TrS (evSs P (callN P (n + 4)) e59.body [some (tab (m + 1) D), none] g) _ _
  refine t_asg (v := split m l R) (σ1 := [some (tab (m + 1) D), some (split m l R)]) (g1 := g) (g2 := g) (by simp_all! [pures_tab, h3]) rfl ?_
  have h1 : (split m l R).look = split m l R := rfl
  have h4 := is_whole (l := l) (R := R) (m := m) (by omega) (n + 3) g
  by_cases hz : zerB m R = true
  · rw [if_pos hz]
    rw [hz] at h4
    exact t_ret (v := .int (l.length : Int)) (g1 := g) (by simp_all! [h1, mth_split, h4, attr_split4]) rfl ⟨rfl, rfl⟩
  · rw [if_neg hz]
    have hz : zerB m R = false := by simpa using hz
    rw [hz] at h4
    exact t_ret (v := .non) (g1 := g) (by simp_all! [h1, mth_split, h4]) rfl ⟨rfl, rfl⟩

end My
end

section
set_option Elab.async false
set_option linter.all false
set_option maxRecDepth 100000
set_option maxHeartbeats 1600000
set_option pp.deepTerms false
set_option pp.deepTerms.threshold 9
open Ev PySem
namespace My
open LA
theorem lowest {a b : Int} (hb : bt 8000 b) (h0 : 0 < b) (n : Nat) (g : G) : callN P (n + 2) 69 [.int a, .int b] g = .ok (.tup [.int (a / (Int.gcd a b : Int)), .int (b / (Int.gcd a b : Int))]) g := by
  refine t_eq f69 rfl rfl ?_
  simp -implicitDefEqProofs only [n69, startA, List.map, List.length, List.replicate, List.cons_append, List.nil_append, Nat.reduceAdd, Nat.reduceSub, Nat.zero_add]
  have hd := divisor n a b (Nat.lt_of_lt_of_le hb (Nat.pow_le_pow_right (by decide) (by decide))) g
  have hp : decide (0 < b) = true := decide_eq_true h0
  have hne : (Int.gcd a b : Int) ≠ 0 := by
    intro z
    have : Int.gcd a b = 0 := by omega
    rw [Int.gcd_eq_zero_iff] at this
    omega
  have hdo : divOk (Int.gcd a b : Int) = true := divOk_bt (bt_dvd hb (by omega) (Int.gcd_dvd_right ..)) hne (by omega)
  have fd : ∀ x : Int, x.fdiv (Int.gcd a b : Int) = x / (Int.gcd a b : Int) := fun x => Int.fdiv_eq_ediv_of_nonneg _ (by omega)
  refine t_asg (v := .int (Int.gcd a b : Int)) (σ1 := [some (.int a), some (.int b), some (.int (Int.gcd a b : Int))]) (g1 := g) (g2 := g) (by simp_all! [hp, hd]) rfl ?_
  exact t_ret (v := .tup [.int (a / (Int.gcd a b : Int)), .int (b / (Int.gcd a b : Int))]) (g1 := g) (by simp_all! [hdo, fd]) rfl ⟨rfl, rfl⟩

end My
end

section
set_option Elab.async false
set_option linter.all false
set_option maxRecDepth 100000
set_option maxHeartbeats 1600000
set_option pp.deepTerms false
set_option pp.deepTerms.threshold 9
open Ev PySem
namespace My
open LA
/-- the sum over each two things -/
def pl (m : Nat) (w : Vec) (D : Mat) : Int := sm (fun i => sm (fun j => w i * w j * D i j) i) m
abbrev fr (a b : Int) : AV := .tup [.int (a / (Int.gcd a b : Int)), .int (b / (Int.gcd a b : Int))]
theorem bt60 {x : Int} (h0 : 0 ≤ x) (h1 : x ≤ 1000000000) : bt 60 x := by
  have : (2 : Nat) ^ 60 = 1152921504606846976 := by decide
  show x.natAbs < 2 ^ 60
  omega
theorem Tb.bt60 {m : Nat} {D : Nat → Nat → Int} (T : Tb m D) : ∀ i j, i < m → j < m → bt 60 (D i j) := fun i j hi hj => My.bt60 (T.b0 i j hi hj) (T.b1 i j hi hj)
theorem sum_row (m : Nat) (w : Vec) (g : G) : bfA g .sum [row m w] = some (.int (sm w m)) := by
  have := qsum_mapT g w (List.range m)
  rw [sum_range] at this
  exact this
/-- dimension_of a table that is placed -/
theorem dim_psd {m : Nat} {D : Nat → Nat → Int} (T : Tb (m + 1) D) (hP : Psd m (form D)) (n : Nat) : ∃ d : Nat, ∀ g, callN P (n + 5) 59 [tab (m + 1) D] g = .ok (.int (d : Int)) g := by
  obtain ⟨l, R, c, hA, hd, h⟩ := dimension_of T n
  refine ⟨l.length, fun g => ?_⟩
  have hz : zerB m R = true := zerB_iff.mpr ((hA.run.whole T.form_sym hd).mpr hP)
  rw [h g, if_pos hz]
theorem check_placed {m : Nat} {D : Nat → Nat → Int} (T : Tb (m + 1) D) (hP : Psd m (form D)) (n : Nat) (g : G) : callN P (n + 6) 95 [lens (m + 1) D] g = .ok .non g := by
  refine t_eq f95 rfl rfl ?_
  simp -implicitDefEqProofs only [n95, startA, List.map, List.length, List.replicate, List.cons_append, List.nil_append, Nat.reduceAdd, Nat.reduceSub, Nat.zero_add]
  obtain ⟨d, h⟩ := dim_psd T hP n
  have h := h g
  have hl : (lens (m + 1) D).look = lens (m + 1) D := rfl
  exact t_ifN (g1 := g) (by simp_all! [hl, attr_lens, h]) (t_nil ⟨by trivial, rfl⟩)
/-- the square between the points of two mixes -/
def btw (m : Nat) (D : Mat) (w u : Vec) : Int := -(pl m (fun i => sm u m * w i - sm w m * u i) D)
def bot (m : Nat) (w u : Vec) : Int := sm w m * sm w m * sm u m * sm u m
end My
end

section
set_option Elab.async false
set_option linter.all false
set_option maxRecDepth 100000
set_option maxHeartbeats 1600000
set_option pp.deepTerms false
set_option pp.deepTerms.threshold 9
open Ev PySem
namespace My
open LA
end My
end

section
set_option Elab.async false
set_option linter.all false
set_option maxRecDepth 100000
set_option maxHeartbeats 1600000
set_option pp.deepTerms false
set_option pp.deepTerms.threshold 9
open Ev PySem
namespace My
open LA
abbrev refsK (L m : Nat) : AV := .lst ((List.range m).map fun i => .ref (L + i))
end My
end

section
set_option Elab.async false
set_option linter.all false
set_option maxRecDepth 100000
set_option maxHeartbeats 1600000
set_option pp.deepTerms false
set_option pp.deepTerms.threshold 9
open Ev PySem
namespace My
theorem Tb.upd {m a b : Nat} {D : Nat → Nat → Int} {x : Int} (T : Tb m D) (hne : b ≠ a) (h0 : 0 ≤ x) (h1 : x ≤ 1000000000) : Tb m (updD (updD D a b x) b a x) := by
  refine ⟨T.lo, T.hi, fun i hi => ?_, fun i j hi hj => ?_, fun i j hi hj => ?_, fun i j hi hj => ?_⟩ <;> unfold updD <;> (repeat' split) <;> first | rfl | exact T.dg i hi | exact T.sy i j hi hj | exact T.b0 i j hi hj | exact T.b1 i j hi hj | assumption | (exfalso; omega)

end My
end

section
set_option Elab.async false
set_option linter.all false
set_option maxRecDepth 100000
set_option maxHeartbeats 1600000
set_option pp.deepTerms false
set_option pp.deepTerms.threshold 9
open Ev PySem
namespace My
open LA
theorem w_sip {n r : Nat} {z : Int} {g : G} {K : AV → G → Prop} (h1 : 1 ≤ z) (h2 : z < 2000000) (hg : Ket r g) (H : ∀ (v : Nat) (g' : G), (v : Int) < z → Ket r g' → Oth r g g' → K (.int (v : Int)) g') : Tr (callN P (n + 1) 184 [.ref r, .int z] g) K := by
  obtain ⟨k, rfl⟩ := Int.eq_ofNat_of_zero_le (show 0 ≤ z by omega)
  obtain ⟨v, g', h, hv, k1, o1⟩ := sip n k r (by omega) (by omega) g hg
  rw [h]; exact .v (H v g' (by omega) k1 o1)
theorem w_menu {n r : Nat} {xs : List AV} {g : G} {K : AV → G → Prop} (h0 : xs ≠ []) (hl : xs.length < 1000000) (hb : ∀ x ∈ xs, x.back = some x) (hg : Ket r g) (H : ∀ v g', v ∈ xs → Ket r g' → Oth r g g' → K v g') : Tr (callN P (n + 2) 183 [.ref r, .lst xs] g) K := by
  obtain ⟨v, g', h, hv, k1, o1⟩ := one_menu n xs r h0 hl hb g hg
  rw [h]; exact .v (H v g' hv k1 o1)
theorem w_points {n r : Nat} {most reach : Int} {g : G} {K : AV → G → Prop} (hm1 : 1 ≤ most) (hm : most ≤ 8) (hr1 : 1 ≤ reach) (hr : reach ≤ 5000) (hg : Ket r g) (H : ∀ (m c : Nat) (p : Nat → Nat → Int) (g' : G), 1 ≤ m → (m : Int) ≤ most → 1 ≤ c → c ≤ 4 → (∀ i j : Nat, i < m → j < c → ((p i j).natAbs : Int) ≤ max 3 reach) → Ket r g' → K (.own (lpts m c p)) g') : Tr (callN P (n + 2) 23 [.ref r, .int most, .int reach] g) K := by
  obtain ⟨a, rfl⟩ := Int.eq_ofNat_of_zero_le (show 0 ≤ most by omega)
  obtain ⟨b, rfl⟩ := Int.eq_ofNat_of_zero_le (show 0 ≤ reach by omega)
  obtain ⟨m, c, p, g', h, h1, h2, h3, h4, h5, h6, _⟩ := law_pointsK n a b r (by omega) (by omega) (by omega) (by omega) g hg
  rw [h]; exact .v (H m c p g' h1 (by omega) h3 h4 (fun i j hi hj => by have := h5 i j hi hj; omega) h6)
theorem Tb.sqd {m c : Nat} {B : Nat} {p : Nat → Nat → Int} (hm1 : 1 ≤ m) (hm : m ≤ 8) (hc : c ≤ 8) (hB : B ≤ 5000) (hp : ∀ i j, i < m → j < c → (p i j).natAbs ≤ B) : Tb m (fun i j => sqd c (p i) (p j)) ∧ ∀ i j, i < m → j < m → sqd c (p i) (p j) ≤ (8 * (2 * B * (2 * B)) : Nat) := by
  have hD : ∀ i j, i < m → j < m → 0 ≤ My.sqd c (p i) (p j) ∧ My.sqd c (p i) (p j) ≤ (8 * (2 * B * (2 * B)) : Nat) := fun i j hi hj => by
    have := sqd_bd (c := c) (B := B) (p := p i) (q := p j) (fun k hk => hp i k hi hk) (fun k hk => hp j k hj hk)
    refine ⟨this.1, Int.le_trans this.2 ?_⟩
    have h2 : c * (2 * B * (2 * B)) ≤ 8 * (2 * B * (2 * B)) := Nat.mul_le_mul_right _ hc
    exact_mod_cast h2
  have hBB : 2 * B * (2 * B) ≤ 10000 * 10000 := Nat.mul_le_mul (by omega) (by omega)
  exact ⟨⟨hm1, hm, fun i _ => sqd_self c (p i), fun i j _ _ => sqd_comm c (p i) (p j), fun i j hi hj => (hD i j hi hj).1, fun i j hi hj => Int.le_trans (hD i j hi hj).2 (by omega)⟩, fun i j hi hj => (hD i j hi hj).2⟩

end My
end

section
set_option Elab.async false
set_option linter.all false
set_option maxRecDepth 100000
set_option maxHeartbeats 1600000
set_option pp.deepTerms false
set_option pp.deepTerms.threshold 9
open Ev PySem
namespace My
open LA
/-- data: few elements, ints of at most B bits -/
inductive Dv (B L : Nat) : Nat → AV → Prop where
  | non {d : Nat} : Dv B L d .non
  | bl {d : Nat} (b : Bool) : Dv B L d (.bl b)
  | int {d : Nat} {i : Int} (h : bt B i) : Dv B L d (.int i)
  | str {d : Nat} {s : Str} (h : s.cps.all (· < 0x110000) = true) : Dv B L d (.str s)
  | tup {d : Nat} {xs : List AV} (h : ∀ x ∈ xs, Dv B L d x) (hl : xs.length ≤ L) : Dv B L (d + 1) (.tup xs)
  | lst {d : Nat} {xs : List AV} (h : ∀ x ∈ xs, Dv B L d x) (hl : xs.length ≤ L) : Dv B L (d + 1) (.lst xs)
theorem Dv.mono {B L B' L' : Nat} (hB : B ≤ B') (hL : L ≤ L') : ∀ {d d' : Nat} {v : AV}, Dv B L d v → d ≤ d' → Dv B' L' d' v
  | _, _, _, .non, _ => .non
  | _, _, _, .bl b, _ => .bl b
  | _, _, _, .int h, _ => .int (h.mono hB)
  | _, _, _, .str h, _ => .str h
  | _, d' + 1, _, .tup h hl, hd => .tup (fun x hx => Dv.mono hB hL (h x hx) (by omega)) (by omega)
  | _, d' + 1, _, .lst h hl, hd => .lst (fun x hx => Dv.mono hB hL (h x hx) (by omega)) (by omega)
theorem Dv.solid {B L d : Nat} {v : AV} (h : Dv B L d v) : v.solid = true := by cases h <;> rfl
theorem Dv.dat {B L : Nat} : ∀ {d : Nat} {v : AV}, Dv B L d v → Ev.dat d v = true
  | d, _, .non => by cases d <;> rfl
  | d, _, .bl b => by cases d <;> rfl
  | d, _, .int h => by cases d <;> rfl
  | d, _, .str h => by cases d <;> exact h
  | d + 1, _, .tup h hl => by show List.all _ (Ev.dat d) = true; rw [List.all_eq_true]; exact fun x hx => Dv.dat (h x hx)
  | d + 1, _, .lst h hl => by show List.all _ (Ev.dat d) = true; rw [List.all_eq_true]; exact fun x hx => Dv.dat (h x hx)
theorem Dv.dat60 {B L d : Nat} {v : AV} (h : Dv B L d v) (hd : d ≤ 60) : Ev.dat 60 v = true := dat_mono h.dat hd
def isI : AV → Bool
  | .int _ => true
  | _ => false
def numsB (s : Int) : AV → Bool
  | .tup xs => decide ((xs.length : Int) = s) && xs.all isI
  | _ => false
theorem is_integer_dv {B L d : Nat} {v : AV} (h : Dv B L d v) (n : Nat) (g : G) : callN P (n + 1) 19 [v] g = .ok (.bl (isI v)) g := by
  refine Tr.eq ?_
  cases h <;> ((refine t_def f19 rfl rfl ?_; simp -implicitDefEqProofs only [e19, startA, List.map, List.length, List.replicate, List.cons_append, List.nil_append, Nat.reduceAdd, Nat.reduceSub, Nat.zero_add]); fail "go"; exact ⟨rfl, rfl⟩)
theorem is_integer_dv2 {B L d : Nat} {v : AV} (h : Dv B L d v) (n : Nat) (g : G) : callN P (n + 1) 187 [v] g = .ok (.bl (isI v)) g := by
  refine Tr.eq ?_
  cases h <;> ((refine t_def f187 rfl rfl ?_; simp -implicitDefEqProofs only [e187, startA, List.map, List.length, List.replicate, List.cons_append, List.nil_append, Nat.reduceAdd, Nat.reduceSub, Nat.zero_add]); fail "go"; exact ⟨rfl, rfl⟩)
theorem are_numbers_dv {B L d : Nat} {v : AV} (h : Dv B L d v) (hL : L ≤ 10000) (s : Int) (n : Nat) (g : G) : callN P (n + 2) 301 [v, .int s] g = .ok (.bl (numsB s v)) g := by
  refine Tr.eq ?_
  cases h with
  | tup h hl =>
    rename_i d xs
    (refine t_def f301 rfl rfl ?_; simp -implicitDefEqProofs only [e301, startA, List.map, List.length, List.replicate, List.cons_append, List.nil_append, Nat.reduceAdd, Nat.reduceSub, Nat.zero_add])
    refine s_ret ?_
    fail "ev"
    refine w_dc (fun h1 => ?_) (fun h1 => ?_)
    · fail "ev"
      refine w_compT xs (kx := fun x => x) (g1 := g) (fun x => .bl (isI x)) (by fail "ev"; exact ⟨(List.map_id' xs).symm, rfl⟩) (le_sz (by omega)) ?_ ?_
      · intro x hx
        have hs := (h x hx).solid
        have hi := is_integer_dv (h x hx) n g
        refine ⟨_, by fail "tgd", ?_⟩
        nomatch hi
        exact ⟨rfl, rfl⟩
      fail "ev"
      refine ⟨?_, rfl⟩
      show AV.bl (xs.all isI) = .bl (decide ((xs.length : Int) = s) && xs.all isI)
      rw [decide_eq_true h1, Bool.true_and]
    · fail "ev"
      refine ⟨?_, rfl⟩
      show AV.bl _ = .bl (decide ((xs.length : Int) = s) && xs.all isI)
      rw [decide_eq_false h1, Bool.false_and]
  | _ => (refine t_def f301 rfl rfl ?_; simp -implicitDefEqProofs only [e301, startA, List.map, List.length, List.replicate, List.cons_append, List.nil_append, Nat.reduceAdd, Nat.reduceSub, Nat.zero_add]); fail "go"; exact ⟨rfl, rfl⟩

end My
end

section
set_option Elab.async false
set_option linter.all false
set_option maxRecDepth 100000
set_option maxHeartbeats 1600000
set_option pp.deepTerms false
set_option pp.deepTerms.threshold 9
open Ev PySem
namespace My
open LA
theorem bt0 (B : Nat) : bt B 0 := Nat.two_pow_pos B
theorem bt1 (B : Nat) : bt (B + 1) 1 := by
  show 1 < 2 ^ (B + 1)
  exact Nat.one_lt_two_pow (by omega)
theorem bent_leafs {n r : Nat} {B L d : Nat} {g : G} {K : AV → G → Prop} (hg : Ket r g) (H : ∀ u g', Dv (B + 2) (L + 1) (d + 2) u → Ket r g' → K u g') : Tr (callN P (n + 2) 183 [.ref r, .lst [.non, .int 0, .tup [.int 0], .str "", .lst [], .tup [.non], .tup [.tup []], .bl true]] g) K := by
  refine w_menu (by simp) (by simp) ?_ hg fun u g' hu k' _ => ?_
  · intro x hx
    simp only [List.mem_cons, List.not_mem_nil, or_false] at hx
    rcases hx with rfl | rfl | rfl | rfl | rfl | rfl | rfl | rfl <;> rfl
  refine H u g' ?_ k'
  simp only [List.mem_cons, List.not_mem_nil, or_false] at hu
  rcases hu with rfl | rfl | rfl | rfl | rfl | rfl | rfl | rfl
  · exact .non
  · exact .int (bt0 _)
  · exact .tup (by intro x hx; rw [List.mem_singleton.mp hx]; exact .int (bt0 _)) (by simp)
  · exact .str (by decide +kernel)
  · exact .lst (by simp) (by simp)
  · exact .tup (by intro x hx; rw [List.mem_singleton.mp hx]; exact .non) (by simp)
  · exact .tup (by intro x hx; rw [List.mem_singleton.mp hx]; exact .tup (by simp) (by simp)) (by simp)
  · exact .bl true
theorem tup_nil {xs : List AV} (h : Ev.dat 60 (.tup xs) = true) (hx : xs ≠ []) : eqA (.tup xs) (.tup []) = some false := by
  simp only [eqA, h, show Ev.dat 60 (.tup []) = true from rfl, Bool.and_self, if_true]
  cases xs with
  | nil => exact absurd rfl hx
  | cons a l => rfl
theorem bent {B L r : Nat} (hL : L ≤ 900) : ∀ (d n : Nat) {v : AV} {g : G} {K : AV → G → Prop}, Dv B L d v → d ≤ 50 → Ket r g → (∀ u g', Dv (B + 2) (L + 1) (d + 2) u → Ket r g' → K u g') → Tr (callN P (n + d + 3) 181 [.ref r, v] g) K := by
  intro d
  induction d with
  | zero =>
    intro n v g K h hd hg H
    have hw := is_integer_dv2 h (n + 1) g
    (refine t_def f181 rfl rfl ?_; simp -implicitDefEqProofs only [e181, startA, List.map, List.length, List.replicate, List.cons_append, List.nil_append, Nat.reduceAdd, Nat.reduceSub, Nat.zero_add])
    cases h with
    | int hi =>
      rename_i i
      (refine s_if fun K hK => ?_; nomatch hw; refine hK _ _ _ (by fail "tru") ?_; clear hK K)
      refine w_tt ?_
      (refine s_ret ?_; fail "ev")
      refine w_menu (by simp) (by simp) ?_ hg fun u g' hu k' _ => ?_
      · intro x hx
        simp only [List.mem_cons, List.not_mem_nil, or_false] at hx
        rcases hx with rfl | rfl | rfl | rfl | rfl | rfl | rfl | rfl <;> rfl
      obtain ⟨z, rfl, hz⟩ : ∃ z : Int, u = .int z ∧ bt (B + 2) z := by
        have h1 := hi.mono (show B ≤ B + 1 by omega)
        simp only [List.mem_cons, List.not_mem_nil, or_false] at hu
        rcases hu with rfl | rfl | rfl | rfl | rfl | rfl | rfl | rfl
        · exact ⟨_, rfl, h1.add (bt1 B)⟩
        · exact ⟨_, rfl, h1.sub (bt1 B)⟩
        · exact ⟨_, rfl, hi.neg.mono (by omega)⟩
        · exact ⟨_, rfl, (bt.mul (show bt 2 2 by show (2 : Nat) < 4; decide) hi).mono (by omega)⟩
        · exact ⟨_, rfl, bt0 _⟩
        · exact ⟨_, rfl, (bt1 (B + 1))⟩
        · exact ⟨_, rfl, h1.add (bt1 B)⟩
        · exact ⟨_, rfl, h1.sub (bt1 B)⟩
      fail "ev"
      exact H _ _ (.int hz) k'
    | _ =>
      (refine s_if fun K hK => ?_; nomatch hw; refine hK _ _ _ (by fail "tru") ?_; clear hK K)
      refine w_ff ?_
      (with_reducible apply t_nil)
      (refine s_if fun K hK => ?_; fail "ev"; refine hK _ _ _ (by fail "tru") ?_; clear hK K)
      fail "br"
      (refine s_ret ?_; fail "ev")
      refine bent_leafs (B := B) (L := L) (d := 0) hg fun u g' hu k' => ?_
      have hs := hu.solid
      fail "ev"
      exact H _ _ hu k'
  | succ d ih =>
    intro n v g K h hd hg H
    have hw := is_integer_dv2 h (n + (d + 1) + 1) g
    (refine t_def f181 rfl rfl ?_; simp -implicitDefEqProofs only [e181, startA, List.map, List.length, List.replicate, List.cons_append, List.nil_append, Nat.reduceAdd, Nat.reduceSub, Nat.zero_add])
    cases h with
    | int hi =>
      rename_i i
      (refine s_if fun K hK => ?_; nomatch hw; refine hK _ _ _ (by fail "tru") ?_; clear hK K)
      refine w_tt ?_
      (refine s_ret ?_; fail "ev")
      refine w_menu (by simp) (by simp) ?_ hg fun u g' hu k' _ => ?_
      · intro x hx
        simp only [List.mem_cons, List.not_mem_nil, or_false] at hx
        rcases hx with rfl | rfl | rfl | rfl | rfl | rfl | rfl | rfl <;> rfl
      obtain ⟨z, rfl, hz⟩ : ∃ z : Int, u = .int z ∧ bt (B + 2) z := by
        have h1 := hi.mono (show B ≤ B + 1 by omega)
        simp only [List.mem_cons, List.not_mem_nil, or_false] at hu
        rcases hu with rfl | rfl | rfl | rfl | rfl | rfl | rfl | rfl
        · exact ⟨_, rfl, h1.add (bt1 B)⟩
        · exact ⟨_, rfl, h1.sub (bt1 B)⟩
        · exact ⟨_, rfl, hi.neg.mono (by omega)⟩
        · exact ⟨_, rfl, (bt.mul (show bt 2 2 by show (2 : Nat) < 4; decide) hi).mono (by omega)⟩
        · exact ⟨_, rfl, bt0 _⟩
        · exact ⟨_, rfl, (bt1 (B + 1))⟩
        · exact ⟨_, rfl, h1.add (bt1 B)⟩
        · exact ⟨_, rfl, h1.sub (bt1 B)⟩
      fail "ev"
      exact H _ _ (.int hz) k'
    | tup he hl =>
      rename_i xs
      (refine s_if fun K hK => ?_; nomatch hw; refine hK _ _ _ (by fail "tru") ?_; clear hK K)
      refine w_ff ?_
      (with_reducible apply t_nil)
      by_cases hx : xs = []
      · subst hx
        have hn2 : eqA (.tup []) (.tup []) = some true := rfl
        (refine s_if fun K hK => ?_; fail "ev"; refine hK _ _ _ (by fail "tru") ?_; clear hK K)
        refine w_tt ?_
        (refine s_ret ?_; fail "ev")
        refine bent_leafs (B := B) (L := L) (d := d + 1) hg fun u g' hu k' => ?_
        have hs := hu.solid
        fail "ev"
        exact H _ _ hu k'
      have hnil := tup_nil ((Dv.tup he hl).dat60 (by omega)) hx
      have hpos : 0 < xs.length := List.length_pos_iff.mpr hx
      (refine s_if fun K hK => ?_; fail "ev"; refine hK _ _ _ (by fail "tru") ?_; clear hK K)
      fail "br"
      (with_reducible apply t_nil)
      refine s_par fun K hK => ?_
      fail "ev"
      refine w_sip (by omega) (by omega) hg fun a g1 ha k1 _ => ?_
      fail "ev"
      refine w_sip (by omega) (by omega) k1 fun w g2 hw k2 _ => ?_
      fail "ev"
      refine hK _ _ _ (by fail "tgd") ?_
      clear hK K
      have ha : a < xs.length := by omega
      have het : ∀ x ∈ xs.take a, Dv B L d x := fun x hx => he x (List.mem_of_mem_take hx)
      have hed : ∀ k, ∀ x ∈ xs.drop k, Dv B L d x := fun k x hx => he x (List.mem_of_mem_drop hx)
      have hea : Dv B L d xs[a] := he _ (List.getElem_mem ha)
      have up : ∀ {x}, Dv B L d x → Dv (B + 2) (L + 1) (d + 2) x := fun h => h.mono (by omega) (by omega) (by omega)
      have lf : ∀ {u}, (∀ k, Dv (B + 2) (L + 1) (k + 1) u) → ∀ ys, (∀ x ∈ ys, Dv B L d x) → ∀ zs, (∀ x ∈ zs, Dv B L d x) → ys.length + zs.length ≤ L → Dv (B + 2) (L + 1) (d + 1 + 2) (.tup (ys ++ [u] ++ zs)) := fun {u} hu ys hy zs hz hlen => .tup (fun x hx => by
        rcases List.mem_append.mp hx with hx | hx
        · rcases List.mem_append.mp hx with hx | hx
          · exact up (hy x hx)
          · rw [List.mem_singleton.mp hx]; exact hu (d + 1)
        · exact up (hz x hx)) (by simp only [List.length_append, List.length_cons, List.length_nil]; omega)
      have hs2 := hea.solid
      have hat : atI xs (a : Int) = some xs[a] := qat_get (List.getElem?_eq_getElem ha)
      by_cases w0 : (w : Int) = 0
      · (refine s_if fun K hK => ?_; fail "ev"; refine hK _ _ _ (by fail "tru") ?_; clear hK K)
        fail "br"
        (refine s_ret ?_; fail "ev")
        refine H _ _ (.tup (fun x hx => ?_) ?_) k2
        · rcases List.mem_append.mp hx with hx | hx
          · exact up (het x hx)
          · exact up (hed _ x hx)
        · simp only [List.length_append, List.length_take, List.length_drop]; omega
      (refine s_if fun K hK => ?_; fail "ev"; refine hK _ _ _ (by fail "tru") ?_; clear hK K)
      fail "br"
      (with_reducible apply t_nil)
      by_cases w1 : (w : Int) = 1
      · (refine s_if fun K hK => ?_; fail "ev"; refine hK _ _ _ (by fail "tru") ?_; clear hK K)
        fail "br"
        (refine s_ret ?_; fail "ev")
        refine H _ _ (.tup (fun x hx => ?_) ?_) k2
        · rcases List.mem_append.mp hx with hx | hx
          · rcases List.mem_append.mp hx with hx | hx
            · exact up (het x hx)
            · rw [List.mem_singleton.mp hx]; exact up hea
          · exact up (hed _ x hx)
        · simp only [List.length_append, List.length_take, List.length_drop, List.length_cons, List.length_nil]; omega
      (refine s_if fun K hK => ?_; fail "ev"; refine hK _ _ _ (by fail "tru") ?_; clear hK K)
      fail "br"
      (with_reducible apply t_nil)
      by_cases w2 : (w : Int) = 2
      · (refine s_if fun K hK => ?_; fail "ev"; refine hK _ _ _ (by fail "tru") ?_; clear hK K)
        fail "br"
        (refine s_ret ?_; fail "ev")
        exact H _ _ (.tup (fun x hx => up (he x (List.mem_reverse.mp hx))) (by rw [List.length_reverse]; omega)) k2
      (refine s_if fun K hK => ?_; fail "ev"; refine hK _ _ _ (by fail "tru") ?_; clear hK K)
      fail "br"
      (with_reducible apply t_nil)
      by_cases w3 : (w : Int) = 3
      · (refine s_if fun K hK => ?_; fail "ev"; refine hK _ _ _ (by fail "tru") ?_; clear hK K)
        fail "br"
        (refine s_ret ?_; fail "ev")
        refine w_menu (by simp) (by simp) ?_ k2 fun u g' hu k' _ => ?_
        · intro x hx
          simp only [List.mem_cons, List.not_mem_nil, or_false] at hx
          rcases hx with rfl | rfl | rfl | rfl <;> rfl
        have hd2 : Dv (B + 2) (L + 1) (d + 1 + 2) u := by
          simp only [List.mem_cons, List.not_mem_nil, or_false] at hu
          rcases hu with rfl | rfl | rfl | rfl
          · exact .lst (fun x hx => up (he x hx)) (by omega)
          · exact lf (fun k => .bl true) _ het _ (hed _) (by simp only [List.length_take, List.length_drop]; omega)
          · have := lf (fun k => .int (bt0 _)) xs he [] (fun x hx => absurd hx List.not_mem_nil) (by rw [List.length_nil]; omega)
            rw [List.append_nil] at this
            exact this
          · have := lf (fun k => .tup (fun x hx => absurd hx List.not_mem_nil) (Nat.zero_le _)) xs he [] (fun x hx => absurd hx List.not_mem_nil) (by rw [List.length_nil]; omega)
            rw [List.append_nil] at this
            exact this
        have hs := hd2.solid
        fail "ev"
        exact H _ _ hd2 k'
      (refine s_if fun K hK => ?_; fail "ev"; refine hK _ _ _ (by fail "tru") ?_; clear hK K)
      fail "br"
      (with_reducible apply t_nil)
      (refine s_ret ?_; fail "ev")
      refine ih n hea (by omega) k2 fun u g' hu k' => ?_
      have hs := hu.solid
      fail "ev"
      refine H _ _ (.tup (fun x hx => ?_) ?_) k'
      · rcases List.mem_append.mp hx with hx | hx
        · rcases List.mem_append.mp hx with hx | hx
          · exact up (het x hx)
          · rw [List.mem_singleton.mp hx]; exact hu
        · exact up (hed _ x hx)
      · simp only [List.length_append, List.length_take, List.length_drop, List.length_cons, List.length_nil]; omega
    | _ =>
      (refine s_if fun K hK => ?_; nomatch hw; refine hK _ _ _ (by fail "tru") ?_; clear hK K)
      refine w_ff ?_
      (with_reducible apply t_nil)
      (refine s_if fun K hK => ?_; fail "ev"; refine hK _ _ _ (by fail "tru") ?_; clear hK K)
      fail "br"
      (refine s_ret ?_; fail "ev")
      refine bent_leafs (B := B) (L := L) (d := d + 1) hg fun u g' hu k' => ?_
      have hs := hu.solid
      fail "ev"
      exact H _ _ hu k'

end My
end

section
set_option Elab.async false
set_option linter.all false
set_option maxRecDepth 100000
set_option maxHeartbeats 1600000
set_option pp.deepTerms false
set_option pp.deepTerms.threshold 9
open Ev PySem
namespace My
open LA
/-- a paper of layers -/
abbrev lyv (m : Nat) (q : Int × Int × Vec) : AV := .tup [.int q.1, .int q.2.1, row m q.2.2]
abbrev papr (m : Nat) (L : List (Int × Int × Vec)) : AV := .tup (L.map (lyv m))
def crd (c : Nat) (p : Nat → Nat → Int) : List (Int × Int × Vec) := (List.range c).map fun k => (1, 1, fun i => p i k)
end My
end

section
set_option Elab.async false
set_option linter.all false
set_option maxRecDepth 100000
set_option maxHeartbeats 1600000
set_option pp.deepTerms false
set_option pp.deepTerms.threshold 9
open Ev PySem
namespace My
open LA
theorem are_numbers {k : Nat} {w : Vec} (hk : k ≤ 1000) (s : Int) (n : Nat) (g : G) : callN P (n + 2) 301 [row k w, .int s] g = .ok (.bl (decide ((k : Int) = s))) g := by
  refine t_eq f301 rfl rfl ?_
  show TrS (evSs P (callN P (n + 1)) e301.body [some (row k w), some (.int s), none] g) _ _
  have hsz : k ≤ Ev.sizeLine := le_sz (by omega)
  by_cases h : (k : Int) = s
  · have d1 : decide ((k : Int) = s) = true := decide_eq_true h
    refine t_ret (v := .bl (decide ((k : Int) = s))) (g1 := g) ?_ rfl ⟨rfl, rfl⟩
    simp_all! [d1]
    rw [compL_map (h := fun _ => AV.bl true)]
    rotate_left
    · intro i hi
      simp_all! [is_integer]
    simp_all! [hsz]
  · have d1 : decide ((k : Int) = s) = false := decide_eq_false h
    exact t_ret (v := .bl (decide ((k : Int) = s))) (g1 := g) (by simp_all! [d1]) rfl ⟨rfl, rfl⟩
theorem are_rows {m : Nat} {D : Nat → Nat → Int} (T : Tb m D) (n : Nat) (g : G) : callN P (n + 6) 198 [tab m D] g = .ok (.bl true) g := by
  refine t_eq f198 rfl rfl ?_
  show TrS (evSs P (callN P (n + 5)) e198.body [some (tab m D)] g) _ _
  have h1 : decide ((1 : Int) ≤ (m : Int)) = true := by have := T.lo; simp only [decide_eq_true_eq]; omega
  have h2 : decide ((m : Int) ≤ 8) = true := by have := T.hi; simp only [decide_eq_true_eq]; omega
  exact t_ret (v := .bl true) (g1 := g) (by simp_all! [h1, h2, wrong_row T n g]) rfl ⟨rfl, rfl⟩
end My
end

section
set_option Elab.async false
set_option linter.all false
set_option maxRecDepth 100000
set_option maxHeartbeats 1600000
set_option pp.deepTerms false
set_option pp.deepTerms.threshold 9
open Ev PySem
namespace My
open LA
def toV (xs : List AV) : Vec := fun i => match xs.getD i .non with
  | .int z => z
  | _ => 0
theorem nums_row {xs : List AV} {m : Nat} (h : numsB (m : Int) (.tup xs) = true) : AV.tup xs = row m (toV xs) := by
  unfold numsB at h
  rw [Bool.and_eq_true, decide_eq_true_eq, List.all_eq_true] at h
  obtain ⟨h1, h2⟩ := h
  have h1 : xs.length = m := by omega
  subst h1
  congr 1
  apply List.ext_getElem
  · rw [List.length_map, List.length_range]
  · intro i hi _
    rw [List.getElem_map, List.getElem_range]
    have h3 := h2 xs[i] (List.getElem_mem hi)
    unfold toV
    rw [List.getD_eq_getElem?_getD, List.getElem?_eq_getElem hi, Option.getD_some]
    cases hx : xs[i] <;> rw [hx] at h3 <;> first | rfl | cases h3
theorem toV_bt {xs : List AV} {B L d i : Nat} (h : ∀ x ∈ xs, Dv B L d x) : bt B (toV xs i) := by
  unfold toV
  rw [List.getD_eq_getElem?_getD]
  cases hx : xs[i]? with
  | none => exact Nat.two_pow_pos B
  | some x =>
    have h2 := h x (List.mem_of_getElem? hx)
    rw [Option.getD_some]
    cases h2 with
    | int hi => exact hi
    | _ => exact Nat.two_pow_pos B
/-- weights with the sum 0 and a pull above 0 -/
def barsB (m : Nat) (D : Nat → Nat → Int) : AV → Bool
  | .tup xs => numsB (m : Int) (.tup xs) && (decide (sm (toV xs) m = 0) && decide (0 < pl m (toV xs) D))
  | _ => false
/-- the law's own -/
theorem eq_nil {xs : List AV} (h : Ev.dat 60 (.own xs) = true) : eqA (.own xs) (.own []) = some xs.isEmpty := by
  simp only [eqA, h, show Ev.dat 60 (.own []) = true from rfl, Bool.and_self, if_true]
  cases xs <;> rfl
theorem law_whole_row {B L d : Nat} {v : AV} (h : Dv B L d v) (hd : d ≤ 50) (hL : L ≤ 10000) (s : Int) (n : Nat) (g : G) : callN P (n + 2) 186 [v, .int s] g = .ok (.bl (numsB s v)) g := by
  refine Tr.eq ?_
  cases h with
  | tup he hl =>
    rename_i d xs
    (refine t_def f186 rfl rfl ?_; simp -implicitDefEqProofs only [e186, startA, List.map, List.length, List.replicate, List.cons_append, List.nil_append, Nat.reduceAdd, Nat.reduceSub, Nat.zero_add])
    refine s_ret ?_
    fail "ev"
    refine w_dc (fun h1 => ?_) (fun h1 => ?_)
    · fail "ev"
      refine w_compFT xs (kx := fun x => x) (g1 := g) (fun x => !isI x) (fun x => x) (by fail "ev"; exact ⟨(List.map_id' xs).symm, rfl⟩) (le_sz (by omega)) ?_ ?_
      · intro x hx
        have hs := (he x hx).solid
        have hi := is_integer_dv2 (he x hx) n g
        refine ⟨_, by fail "tgd", ?_, fun _ => ?_⟩
        · nomatch hi
          exact ⟨rfl, rfl⟩
        · fail "ev"
          exact ⟨rfl, AV.keep_solid hs⟩
      rw [List.map_id']
      have hdat : Ev.dat 60 (.own (xs.filter fun x => !isI x)) = true := by
        show List.all _ (Ev.dat 59) = true
        rw [List.all_eq_true]
        intro x hx
        exact dat_mono (he x (List.mem_filter.mp hx).1).dat (by omega)
      have hq := eq_nil hdat
      fail "ev"
      refine ⟨?_, rfl⟩
      show AV.bl _ = .bl (decide ((xs.length : Int) = s) && xs.all isI)
      rw [decide_eq_true h1, Bool.true_and]
      congr 1
      clear he hl hdat hq h1
      induction xs with
      | nil => rfl
      | cons x xs ih =>
        rw [List.filter_cons, List.all_cons]
        cases isI x
        · rfl
        · simpa using ih
    · fail "ev"
      refine ⟨?_, rfl⟩
      show AV.bl _ = .bl (decide ((xs.length : Int) = s) && xs.all isI)
      rw [decide_eq_false h1, Bool.false_and]
  | _ => (refine t_def f186 rfl rfl ?_; simp -implicitDefEqProofs only [e186, startA, List.map, List.length, List.replicate, List.cons_append, List.nil_append, Nat.reduceAdd, Nat.reduceSub, Nat.zero_add]); fail "go"; exact ⟨rfl, rfl⟩
theorem dv_row {B L d m : Nat} {w : Vec} (hw : ∀ i, i < m → bt B (w i)) (hm : m ≤ L) : Dv B L (d + 1) (row m w) := .tup (fun x hx => by
  obtain ⟨i, hi, rfl⟩ := List.mem_map.mp hx
  exact .int (hw i (List.mem_range.mp hi))) (by rw [List.length_map, List.length_range]; exact hm)
theorem toV_row (m : Nat) (w : Vec) {i : Nat} (hi : i < m) : toV ((List.range m).map fun j => AV.int (w j)) i = w i := by
  unfold toV
  rw [List.getD_eq_getElem?_getD, List.getElem?_map, List.getElem?_range hi]
  rfl
theorem nums_rowT (m : Nat) (w : Vec) : numsB (m : Int) (row m w) = true := by
  show (decide ((((List.range m).map fun j => AV.int (w j)).length : Int) = m) && ((List.range m).map fun j => AV.int (w j)).all isI) = true
  rw [List.length_map, List.length_range, decide_eq_true rfl, Bool.true_and, List.all_map]
  exact List.all_eq_true.mpr fun _ _ => rfl

end My
end

section
set_option Elab.async false
set_option linter.all false
set_option maxRecDepth 100000
set_option maxHeartbeats 1600000
set_option pp.deepTerms false
set_option pp.deepTerms.threshold 9
open Ev PySem
namespace My
open LA
def betN (a b : Int) : AV → Bool
  | .int i => decide (a ≤ i) && decide (i ≤ b)
  | _ => false
def ascB (c : Int) (m : Nat) (v : AV) : Bool := numsB c v && match v with
  | .tup xs => xs.all (betN 0 ((m : Int) - 1)) && (List.range (xs.length - 1)).all fun p => decide (toV xs p < toV xs (p + 1))
  | _ => false
/-- the lot that a paper is -/
def toN : AV → List Nat
  | .tup xs => (List.range xs.length).map fun i => (toV xs i).toNat
  | _ => []

end My
end

section
set_option Elab.async false
set_option linter.all false
set_option maxRecDepth 100000
set_option maxHeartbeats 1600000
set_option pp.deepTerms false
set_option pp.deepTerms.threshold 9
open Ev PySem
namespace My
open LA
theorem intsOf_map : ∀ l : List Int, intsOf (l.map AV.int) = some l
  | [] => rfl
  | x :: r => by rw [List.map_cons, intsOf, intsOf_map r]; rfl
end My
end

section
set_option Elab.async false
set_option linter.all false
set_option maxRecDepth 100000
set_option maxHeartbeats 1600000
set_option pp.deepTerms false
set_option pp.deepTerms.threshold 9
open Ev PySem
namespace My
/-! ### tables told apart -/
def tabB (m n : Nat) (D E : Nat → Nat → Int) : Bool := decide (m = n) && (List.range m).all fun i => (List.range m).all fun j => decide (D i j = E i j)
/-- orders -/
abbrev ordT (o : List Nat) : AV := .tup (o.map fun x : Nat => AV.int (x : Int))
end My
end

section
set_option Elab.async false
set_option linter.all false
set_option maxRecDepth 100000
set_option maxHeartbeats 1600000
set_option pp.deepTerms false
set_option pp.deepTerms.threshold 9
open Ev PySem
namespace My
open LA
def itmV : AV → List AV
  | .tup xs => xs
  | _ => []
def rowB (xs : List AV) (i : Nat) : Bool := match xs.getD i .non with
  | .tup ys => decide (ys.length = xs.length) && ys.all (betN 0 1000000000) && (decide (toV ys i = 0) && (List.range i).all fun j => decide (toV ys j = toV (itmV (xs.getD j .non)) i))
  | _ => false
def rowsB : AV → Bool
  | .tup xs => (decide (1 ≤ xs.length) && decide (xs.length ≤ 8)) && (List.range xs.length).all (rowB xs)
  | _ => false
end My
end

section
set_option Elab.async false
set_option linter.all false
set_option maxRecDepth 100000
set_option maxHeartbeats 1600000
set_option pp.deepTerms false
set_option pp.deepTerms.threshold 9
open Ev PySem
namespace My
open LA
theorem fr_eq {a b c d : Int} (hb : 0 < b) (hd : 0 < d) (h : a * d = c * b) : fr a b = fr c d := by
  have g1 : 0 < (Int.gcd a b : Int) := by
    have : Int.gcd a b ≠ 0 := fun z => by rw [Int.gcd_eq_zero_iff] at z; omega
    omega
  have g2 : 0 < (Int.gcd c d : Int) := by
    have : Int.gcd c d ≠ 0 := fun z => by rw [Int.gcd_eq_zero_iff] at z; omega
    omega
  obtain ⟨x', hx'⟩ := Int.gcd_dvd_left a b
  obtain ⟨x, hx⟩ := Int.gcd_dvd_right a b
  obtain ⟨y', hy'⟩ := Int.gcd_dvd_left c d
  obtain ⟨y, hy⟩ := Int.gcd_dvd_right c d
  have key : d * (Int.gcd a b : Int) = b * (Int.gcd c d : Int) := by
    have e1 : Int.gcd (a * d) (b * d) = Int.gcd a b * d.natAbs := Int.gcd_mul_right ..
    have e2 : Int.gcd (c * b) (d * b) = Int.gcd c d * b.natAbs := Int.gcd_mul_right ..
    rw [h, Int.mul_comm b d, e2] at e1
    have e3 : ((Int.gcd c d * b.natAbs : Nat) : Int) = ((Int.gcd a b * d.natAbs : Nat) : Int) := by rw [e1]
    push_cast at e3
    have n1 : ((b.natAbs : Nat) : Int) = b := by omega
    have n2 : ((d.natAbs : Nat) : Int) = d := by omega
    rw [n1, n2] at e3
    grind
  unfold fr
  generalize (Int.gcd a b : Int) = G at *
  generalize (Int.gcd c d : Int) = H at *
  have hxy : x = y := by
    rw [hx, hy] at key
    have : (G * H) * y = (G * H) * x := by grind
    exact (Int.eq_of_mul_eq_mul_left (by have := Int.mul_pos g1 g2; omega) this).symm
  have hx0 : 0 < x := by
    rw [hx] at hb
    exact Int.pos_of_mul_pos_right hb (by omega) |> fun h => h
  have hxy' : x' = y' := by
    rw [hx', hx, hy', hy, hxy] at h
    have : (G * H * y) * x' = (G * H * y) * y' := by grind
    refine Int.eq_of_mul_eq_mul_left ?_ this
    have := Int.mul_pos (Int.mul_pos g1 g2) (hxy ▸ hx0)
    omega
  have e1 : a / G = x' := by rw [hx', Int.mul_ediv_cancel_left _ (by omega)]
  have e2 : b / G = x := by rw [hx, Int.mul_ediv_cancel_left _ (by omega)]
  have e3 : c / H = y' := by rw [hy', Int.mul_ediv_cancel_left _ (by omega)]
  have e4 : d / H = y := by rw [hy, Int.mul_ediv_cancel_left _ (by omega)]
  rw [e1, e2, e3, e4, hxy, hxy']

end My
end

section
set_option Elab.async false
set_option linter.all false
set_option maxRecDepth 100000
set_option maxHeartbeats 1600000
set_option pp.deepTerms false
set_option pp.deepTerms.threshold 9
open Ev PySem
namespace My
open LA
theorem fr_parts {a b : Int} (hb : 0 < b) : ∃ (g x y : Int), 0 < g ∧ a = x * g ∧ b = y * g ∧ 0 < y ∧ fr a b = .tup [.int x, .int y] ∧ x.natAbs ≤ a.natAbs ∧ y.natAbs ≤ b.natAbs := by
  have g1 : 0 < (Int.gcd a b : Int) := by
    have : Int.gcd a b ≠ 0 := fun z => by rw [Int.gcd_eq_zero_iff] at z; omega
    omega
  obtain ⟨x, hx⟩ := Int.gcd_dvd_left a b
  obtain ⟨y, hy⟩ := Int.gcd_dvd_right a b
  have hx2 : a / (Int.gcd a b : Int) = x := Int.ediv_eq_of_eq_mul_right (by omega) hx
  have hy2 : b / (Int.gcd a b : Int) = y := Int.ediv_eq_of_eq_mul_right (by omega) hy
  generalize hG : (Int.gcd a b : Int) = G at *
  have hy0 : 0 < y := by
    rcases Int.lt_trichotomy y 0 with h | h | h
    · have := Int.mul_neg_of_pos_of_neg g1 h; omega
    · rw [h] at hy; omega
    · exact h
  refine ⟨G, x, y, g1, by rw [Int.mul_comm]; exact hx, by rw [Int.mul_comm]; exact hy, hy0, ?_, ?_, ?_⟩
  · unfold fr; rw [hG, hx2, hy2]
  · rw [hx, Int.natAbs_mul]; exact Nat.le_mul_of_pos_left _ (by omega)
  · rw [hy, Int.natAbs_mul]; exact Nat.le_mul_of_pos_left _ (by omega)
theorem added {a b c d : Int} {k : Nat} (hb : 0 < b) (hd : 0 < d) (ha : bt k a) (hb2 : bt k b) (hc : bt k c) (hd2 : bt k d) (hk : k ≤ 3000) (n : Nat) (g : G) : callN P (n + 3) 110 [fr a b, fr c d] g = .ok (fr (a * d + c * b) (b * d)) g := by
  obtain ⟨G, x, y, hG, rfl, rfl, hy, e1, lx, ly⟩ := fr_parts (a := a) hb
  obtain ⟨L, u, v, hL, rfl, rfl, hv, e2, lu, lv⟩ := fr_parts (a := c) hd
  have bx : bt k x := Nat.lt_of_le_of_lt lx ha
  have by' : bt k y := Nat.lt_of_le_of_lt ly hb2
  have bu : bt k u := Nat.lt_of_le_of_lt lu hc
  have bv : bt k v := Nat.lt_of_le_of_lt lv hd2
  have hyv : 0 < y * v := Int.mul_pos hy hv
  have hlow := lowest (a := x * v + u * y) (b := y * v) ((by'.mul bv).mono (by omega)) hyv n g
  have hres : fr (x * v + u * y) (y * v) = fr (x * G * (v * L) + u * L * (y * G)) (y * G * (v * L)) := fr_eq hyv (Int.mul_pos hb hd) (by grind)
  rw [e1, e2, ← hres]
  refine t_eq f110 rfl rfl ?_
  show TrS (evSs P (callN P (n + 2)) e110.body [some (.tup [.int x, .int y]), some (.tup [.int u, .int v])] g) _ _
  have m1 : mulOk x v = true := mulOk_bt bx bv (by omega)
  have m2 : mulOk u y = true := mulOk_bt bu by' (by omega)
  have m3 : mulOk y v = true := mulOk_bt by' bv (by omega)
  exact t_ret (v := fr (x * v + u * y) (y * v)) (g1 := g) (by simp_all! [m1, m2, m3, hlow]) rfl ⟨rfl, rfl⟩

end My
end

section
set_option Elab.async false
set_option linter.all false
set_option maxRecDepth 100000
set_option maxHeartbeats 1600000
set_option pp.deepTerms false
set_option pp.deepTerms.threshold 9
open Ev PySem
namespace My
open LA
theorem is_layer {m : Nat} {q : Int × Int × Vec} (hm : m ≤ 8) (h1 : 1 ≤ q.1) (h2 : 1 ≤ q.2.1) (n : Nat) (g : G) : callN P (n + 3) 305 [lyv m q, .int (m : Int)] g = .ok (.bl true) g := by
  obtain ⟨a, b, w⟩ := q
  have h1 : 1 ≤ a := h1
  have h2 : 1 ≤ b := h2
  refine t_eq f305 rfl rfl ?_
  show TrS (evSs P (callN P (n + 2)) e305.body [some (.tup [.int a, .int b, row m w]), some (.int (m : Int))] g) _ _
  have hn2 : callN P (n + 2) 301 [.tup [.int a, .int b], .int 2] g = .ok (.bl true) g := are_numbers (k := 2) (w := fun i => if i = 0 then a else b) (by omega) 2 n g
  have hnm : callN P (n + 2) 301 [row m w, .int (m : Int)] g = .ok (.bl true) g := by
    have := are_numbers (k := m) (w := w) (by omega) (m : Int) n g
    rw [decide_eq_true rfl] at this
    exact this
  have hsl : slcA g (.tup [.int a, .int b, row m w]) none (some 2) = some (.tup [.int a, .int b]) := rfl
  have hmin : bfA g .min [.tup [.int a, .int b]] = some (.int (if b < a then b else a)) := rfl
  have d1 : decide ((if b < a then b else a) < 1) = false := decide_eq_false (by split <;> omega)
  have r1 : (row m w).look = row m w ∧ (row m w).arg = row m w := ⟨rfl, rfl⟩
  refine t_ifN (g1 := g) (by simp_all! [hsl, hn2, hmin, d1, show decide (((3 : Nat) : Int) = 3) = true from rfl]) ?_
  exact t_ret (v := .bl true) (g1 := g) (by simp_all! [r1.1, r1.2, hnm]) rfl ⟨rfl, rfl⟩
/-- a sum of layers at two things: top and bottom, not in lowest terms -/
def lyN (i j : Nat) : List (Int × Int × Vec) → Int × Int → Int × Int
  | [], s => s
  | q :: L, s => lyN i j L (s.1 * q.2.1 + q.1 * ((q.2.2 i - q.2.2 j) * (q.2.2 i - q.2.2 j)) * s.2, s.2 * q.2.1)
theorem lyN_snoc (i j : Nat) (q : Int × Int × Vec) : ∀ (L : List (Int × Int × Vec)) (s : Int × Int), lyN i j (L ++ [q]) s = ((lyN i j L s).1 * q.2.1 + q.1 * ((q.2.2 i - q.2.2 j) * (q.2.2 i - q.2.2 j)) * (lyN i j L s).2, (lyN i j L s).2 * q.2.1)
  | [], _ => rfl
  | p :: L, s => by rw [List.cons_append, lyN, lyN_snoc i j q L, lyN]
/-- layers that the law draws -/
def Lys (m : Nat) (L : List (Int × Int × Vec)) : Prop := ∀ q ∈ L, 1 ≤ q.1 ∧ q.1 ≤ 1000 ∧ 1 ≤ q.2.1 ∧ q.2.1 ≤ 1000 ∧ ∀ i, i < m → (q.2.2 i).natAbs ≤ 1000000
theorem lyq_bd {m : Nat} {q : Int × Int × Vec} {i j : Nat} (hi : i < m) (hj : j < m) (h : 1 ≤ q.1 ∧ q.1 ≤ 1000 ∧ 1 ≤ q.2.1 ∧ q.2.1 ≤ 1000 ∧ ∀ i, i < m → (q.2.2 i).natAbs ≤ 1000000) : bt 52 (q.1 * ((q.2.2 i - q.2.2 j) * (q.2.2 i - q.2.2 j))) ∧ bt 10 q.2.1 ∧ (q.2.2 i - q.2.2 j).natAbs ≤ 2000000 := by
  obtain ⟨h1, h2, h3, h4, h5⟩ := h
  have e1 := h5 i hi
  have e2 := h5 j hj
  have hd : (q.2.2 i - q.2.2 j).natAbs ≤ 2000000 := by omega
  have hd2 : bt 21 (q.2.2 i - q.2.2 j) := bt_small 2000000 hd (by decide)
  exact ⟨((bt_small (b := 10) 1000 (by omega) (by decide)).mul (hd2.mul hd2)).mono (by omega), bt_small 1000 (by omega) (by decide), hd⟩
theorem lyN_bd {m : Nat} {i j : Nat} (hi : i < m) (hj : j < m) : ∀ {L : List (Int × Int × Vec)} {s : Int × Int} {k : Nat}, Lys m L → 0 < s.2 → bt k s.1 → bt k s.2 → 0 < (lyN i j L s).2 ∧ bt (k + 64 * L.length) (lyN i j L s).1 ∧ bt (k + 64 * L.length) (lyN i j L s).2
  | [], s, k, _, h0, h1, h2 => ⟨h0, h1, h2⟩
  | q :: L, s, k, h, h0, h1, h2 => by
    have hq := h q (List.mem_cons_self ..)
    obtain ⟨b1, b2, _⟩ := lyq_bd hi hj hq
    have a1 : bt (k + 64) (s.1 * q.2.1 + q.1 * ((q.2.2 i - q.2.2 j) * (q.2.2 i - q.2.2 j)) * s.2) := (((h1.mul b2).mono (show k + 10 ≤ k + 60 by omega)).add ((b1.mul h2).mono (show 52 + k ≤ k + 60 by omega))).mono (by omega)
    have a2 : bt (k + 64) (s.2 * q.2.1) := (h2.mul b2).mono (by omega)
    obtain ⟨c1, c2, c3⟩ := lyN_bd hi hj (L := L) (s := (s.1 * q.2.1 + q.1 * ((q.2.2 i - q.2.2 j) * (q.2.2 i - q.2.2 j)) * s.2, s.2 * q.2.1)) (k := k + 64) (fun p hp => h p (List.mem_cons_of_mem _ hp)) (Int.mul_pos h0 (by omega)) a1 a2
    have e : k + 64 + 64 * L.length = k + 64 * (q :: L).length := by rw [List.length_cons]; omega
    rw [e] at c2 c3
    exact ⟨c1, c2, c3⟩
theorem layered {m : Nat} {L : List (Int × Int × Vec)} (hL : Lys m L) (hl : L.length ≤ 10) {i j : Nat} (hi : i < m) (hj : j < m) (n : Nat) (g : G) : callN P (n + 4) 306 [papr m L, .int (i : Int), .int (j : Int)] g = .ok (fr (lyN i j L (0, 1)).1 (lyN i j L (0, 1)).2) g := by
  refine t_eq f306 rfl rfl ?_
  show TrS (evSs P (callN P (n + 3)) e306.body [some (papr m L), some (.int (i : Int)), some (.int (j : Int)), none, none, none, none] g) _ _
  refine t_asg (v := .tup [.int 0, .int 1]) (σ1 := [some (papr m L), some (.int (i : Int)), some (.int (j : Int)), some (fr 0 1), none, none, none]) (g1 := g) (g2 := g) (by simp_all! []) rfl ?_
  refine t_forP L (k := lyv m) (g1 := g) (fun d σ g' => g' = g ∧ ∃ (a4 a5 a6 : Option AV), σ = [some (papr m L), some (.int (i : Int)), some (.int (j : Int)), some (fr (lyN i j d (0, 1)).1 (lyN i j d (0, 1)).2), a4, a5, a6]) (by simp_all! []) ⟨rfl, none, none, none, rfl⟩ ?_ ?_
  · rintro d q c e σ g' ⟨rfl, a4, a5, a6, rfl⟩
    refine ⟨_, rfl, ?_⟩
    have hq := hL q (by rw [e]; simp)
    have hd : Lys m d := fun p hp => hL p (by rw [e]; simp [hp])
    have hdl : d.length ≤ 10 := by have := congrArg List.length e; simp at this; omega
    obtain ⟨c1, c2, c3⟩ := lyN_bd hi hj (L := d) (s := (0, 1)) (k := 1) hd (by decide) (show bt 1 0 by unfold bt; decide) (show bt 1 1 by unfold bt; decide)
    obtain ⟨b1, b2, b3⟩ := lyq_bd hi hj hq
    have hb0 : 0 < q.2.1 := by omega
    have hlow := lowest (a := q.1 * ((q.2.2 i - q.2.2 j) * (q.2.2 i - q.2.2 j))) (b := q.2.1) (b2.mono (by omega)) hb0 (n + 1) g'
    have hlow : callN P (n + 3) 69 [.int (q.1 * ((q.2.2 i - q.2.2 j) * (q.2.2 i - q.2.2 j))), .int q.2.1] g' = .ok (fr (q.1 * ((q.2.2 i - q.2.2 j) * (q.2.2 i - q.2.2 j))) q.2.1) g' := hlow
    have hadd := added (a := (lyN i j d (0, 1)).1) (b := (lyN i j d (0, 1)).2) (c := q.1 * ((q.2.2 i - q.2.2 j) * (q.2.2 i - q.2.2 j))) (d := q.2.1) (k := 1 + 64 * d.length + 52) c1 hb0 (c2.mono (by omega)) (c3.mono (by omega)) (b1.mono (by omega)) (b2.mono (by omega)) (by omega) n g'
    have e2 := lyN_snoc i j q d (0, 1)
    refine t_asg (v := fr (lyN i j (d ++ [q]) (0, 1)).1 (lyN i j (d ++ [q]) (0, 1)).2) (σ1 := [some (papr m L), some (.int (i : Int)), some (.int (j : Int)), some (fr (lyN i j (d ++ [q]) (0, 1)).1 (lyN i j (d ++ [q]) (0, 1)).2), some (.int q.1), some (.int q.2.1), some (row m q.2.2)]) (g1 := g') (g2 := g') ?_ rfl (t_nil ⟨rfl, _, _, _, rfl⟩)
    rw [e2]
    have hpo := powOk2 b3
    have m1 : mulOk q.1 ((q.2.2 i - q.2.2 j) * (q.2.2 i - q.2.2 j)) = true := mulOk_bt (a := 10) (b := 42) (bt_small 1000 (by omega) (by decide)) (((bt_small (b := 21) 2000000 b3 (by decide)).mul (bt_small (b := 21) 2000000 b3 (by decide))).mono (by omega)) (by omega)
    have r1 : ∀ a b : Int, (fr a b).look = fr a b ∧ (fr a b).arg = fr a b := fun _ _ => ⟨rfl, rfl⟩
    simp_all! [hi, hj, hpo, sq2, m1, hlow, (r1 _ _).1, (r1 _ _).2, hadd]
  · rintro σ g' ⟨rfl, a4, a5, a6, rfl⟩
    exact t_ret (v := fr (lyN i j L (0, 1)).1 (lyN i j L (0, 1)).2) (g1 := g') (by simp_all! []) rfl ⟨rfl, rfl⟩

end My
end

section
set_option Elab.async false
set_option linter.all false
set_option maxRecDepth 100000
set_option maxHeartbeats 1600000
set_option pp.deepTerms false
set_option pp.deepTerms.threshold 9
open Ev PySem
namespace My
open LA
theorem fr_is {a b : Int} (hb : 0 < b) (x : Int) : eqA (fr a b) (.tup [.int x, .int 1]) = some (decide (a = x * b)) := by
  obtain ⟨G, u, v, hG, ha, hb2, hv, e, _, _⟩ := fr_parts (a := a) hb
  have hgc : a = x * b → fr a b = .tup [.int x, .int 1] := fun h => by
    have h2 : fr a b = fr x 1 := fr_eq hb (by decide) (by rw [h]; omega)
    rw [h2]
    unfold fr
    rw [Int.gcd_one_right]
    simp
  have hd : ∀ y z : Int, dat 60 (.tup [.int y, .int z]) = true := fun _ _ => rfl
  rw [e]
  simp only [eqA, hd, Bool.and_self, if_true, eqv, eqvs, Bool.and_true]
  congr 1
  by_cases h : a = x * b
  · have := hgc h
    rw [e] at this
    injection this with this
    injection this with t1 t2
    injection t1 with t1
    injection t2 with t2 _
    injection t2 with t2
    rw [decide_eq_true h, decide_eq_true t1, decide_eq_true t2]; rfl
  · rw [decide_eq_false h]
    by_cases h1 : u = x
    · by_cases h2 : v = 1
      · exact absurd (by rw [ha, hb2, h1, h2, Int.one_mul]) h
      · rw [decide_eq_false h2, Bool.and_false]
    · rw [decide_eq_false h1, Bool.false_and]
def prs (m : Nat) : List (Nat × Nat) := (List.range m).flatMap fun i => (List.range i).map fun j => (i, j)
theorem mem_prs {m : Nat} {q : Nat × Nat} : q ∈ prs m ↔ q.1 < m ∧ q.2 < q.1 := by
  unfold prs
  simp only [List.mem_flatMap, List.mem_range, List.mem_map]
  constructor
  · rintro ⟨i, hi, j, hj, rfl⟩; exact ⟨hi, hj⟩
  · rintro ⟨h1, h2⟩; exact ⟨q.1, h1, q.2, h2, rfl⟩
abbrev prv (q : Nat × Nat) : AV := .tup [.int (q.1 : Int), .int (q.2 : Int)]
def lyB (m : Nat) (D : Nat → Nat → Int) (L : List (Int × Int × Vec)) : Bool := (prs m).all fun q => decide ((lyN q.1 q.2 L (0, 1)).1 = D q.1 q.2 * (lyN q.1 q.2 L (0, 1)).2)
theorem prs_len {m : Nat} (hm : m ≤ 8) : (prs m).length ≤ 64 := by
  have : ∀ m, m < 9 → (prs m).length ≤ 64 := by decide
  exact this m (by omega)
theorem are_layers {m : Nat} {D : Nat → Nat → Int} {L : List (Int × Int × Vec)} (T : Tb m D) (hL : Lys m L) (hl : L.length ≤ 10) (n : Nat) (g : G) : callN P (n + 5) 304 [tab m D, papr m L] g = .ok (.bl (lyB m D L)) g := by
  refine t_eq f304 rfl rfl ?_
  show TrS (evSs P (callN P (n + 4)) e304.body [some (tab m D), some (papr m L), none, none, none, none] g) _ _
  have hm := T.hi
  have hszL : L.length ≤ Ev.sizeLine := le_sz (by omega)
  have hszp : (prs m).length ≤ Ev.sizeLine := le_sz (by have := prs_len hm; omega)
  refine t_ifN (g1 := g) ?_ ?_
  · simp_all! []
    rw [compL_map (h := fun _ => AV.bl true)]
    rotate_left
    · intro q hq
      obtain ⟨h1, _, h3, _⟩ := hL q hq
      have r1 : (lyv m q).look = lyv m q ∧ (lyv m q).arg = lyv m q ∧ (lyv m q).put false = some (lyv m q) := ⟨rfl, rfl, rfl⟩
      have := is_layer hm h1 h3 (n + 1) g
      have : callN P (n + 4) 305 [lyv m q, .int (m : Int)] g = .ok (.bl true) g := this
      simp_all! [r1.1, r1.2.1, r1.2.2, this]
    simp_all! [hszL]
  · have hpairs : evE P (callN P (n + 4)) (.comp2 false (.v 4 false) (.rng (.cons false (.bf .len (.cons false (.var 0) .nil)) .nil)) .nil (.v 5 false) (.rng (.cons false (.var 4) .nil)) .nil (.tup (.cons false (.var 4) (.cons false (.var 5) .nil)))) [some (tab m D), some (papr m L), none, none, none, none] g = .ok (.own ((prs m).map prv)) g := by
      simp_all! [show m < 1000000000 by omega]
      rw [compL_flat (h := fun i => (List.range i).map fun j => prv (i, j))]
      rotate_left
      · intro i hi
        have hi := List.mem_range.mp hi
        simp_all! [show i < 1000000000 by omega]
        rw [compL_map (h := fun j => prv (i, j))]
        intro j hj
        simp_all! []
      have e : (List.range m).flatMap (fun i => (List.range i).map fun j => prv (i, j)) = (prs m).map prv := by
        unfold prs
        rw [List.map_flatMap]
        congr 1
        funext i
        rw [List.map_map]; rfl
      have hz : ((List.range m).flatMap fun i => (List.range i).map fun j => prv (i, j)).length ≤ Ev.sizeLine := by rw [e, List.length_map]; exact hszp
      simp_all! [e, hszp]
    refine t_asg (v := .own ((prs m).map prv)) (σ1 := [some (tab m D), some (papr m L), none, some (.lst ((prs m).map prv)), none, none]) (g1 := g) (g2 := g) hpairs rfl ?_
    refine t_ret (v := .bl (lyB m D L)) (g1 := g) ?_ rfl ⟨rfl, rfl⟩
    simp_all! []
    rw [compL_map (h := fun q : Nat × Nat => AV.bl (decide ((lyN q.1 q.2 L (0, 1)).1 = D q.1 q.2 * (lyN q.1 q.2 L (0, 1)).2)))]
    rotate_left
    · rintro ⟨i, j⟩ hq
      obtain ⟨h1, h2⟩ := mem_prs.mp hq
      have hj : j < m := by have h1 : i < m := h1; have h2 : j < i := h2; omega
      have hi : i < m := h1
      have c1 := (lyN_bd hi hj (L := L) (s := (0, 1)) (k := 1) hL (by decide) (show bt 1 0 by unfold bt; decide) (show bt 1 1 by unfold bt; decide)).1
      have hly := layered hL hl hi hj n g
      have hfr := fr_is (a := (lyN i j L (0, 1)).1) c1 (D i j)
      have r1 : (papr m L).look = papr m L ∧ (papr m L).arg = papr m L := ⟨rfl, rfl⟩
      have r2 : (fr (lyN i j L (0, 1)).1 (lyN i j L (0, 1)).2).hand = fr (lyN i j L (0, 1)).1 (lyN i j L (0, 1)).2 := rfl
      simp_all! [r1.1, r1.2, hly, hi, hj, hfr]
    simp_all! [hszp, List.all_map]
    rfl

end My
end

section
set_option Elab.async false
set_option linter.all false
set_option maxRecDepth 100000
set_option maxHeartbeats 1600000
set_option pp.deepTerms false
set_option pp.deepTerms.threshold 9
open Ev PySem
namespace My
open LA
def Lyb (b m : Nat) (L : List (Int × Int × Vec)) : Prop := ∀ q ∈ L, 1 ≤ q.1 ∧ bt b q.1 ∧ 1 ≤ q.2.1 ∧ bt b q.2.1 ∧ ∀ i, i < m → bt b (q.2.2 i)
theorem powOk_bt {x : Int} {b : Nat} (h : bt b x) (hb : b ≤ 100000) : powOk x 2 = true := by
  have h1 := h.log
  unfold powOk
  rw [Bool.and_eq_true, Bool.or_eq_true]
  exact ⟨by decide, .inr (decide_eq_true (by omega))⟩
theorem addedB {a b c d : Int} {kt kb : Nat} (hb : 0 < b) (hd : 0 < d) (ha : bt kt a) (hb2 : bt kb b) (hc : bt kt c) (hd2 : bt kb d) (hk : 2 * kb ≤ 8000) (ht : kt ≤ 1000000) (n : Nat) (g : G) : callN P (n + 3) 110 [fr a b, fr c d] g = .ok (fr (a * d + c * b) (b * d)) g := by
  obtain ⟨G, x, y, hG, rfl, rfl, hy, e1, lx, ly⟩ := fr_parts (a := a) hb
  obtain ⟨L, u, v, hL, rfl, rfl, hv, e2, lu, lv⟩ := fr_parts (a := c) hd
  have bx : bt kt x := Nat.lt_of_le_of_lt lx ha
  have by' : bt kb y := Nat.lt_of_le_of_lt ly hb2
  have bu : bt kt u := Nat.lt_of_le_of_lt lu hc
  have bv : bt kb v := Nat.lt_of_le_of_lt lv hd2
  have hyv : 0 < y * v := Int.mul_pos hy hv
  have hlow := lowest (a := x * v + u * y) (b := y * v) ((by'.mul bv).mono (by omega)) hyv n g
  have hres : fr (x * v + u * y) (y * v) = fr (x * G * (v * L) + u * L * (y * G)) (y * G * (v * L)) := fr_eq hyv (Int.mul_pos hb hd) (by grind)
  rw [e1, e2, ← hres]
  have m1 : mulOk x v = true := mulOk_bt bx bv (by omega)
  have m2 : mulOk u y = true := mulOk_bt bu by' (by omega)
  have m3 : mulOk y v = true := mulOk_bt by' bv (by omega)
  refine Tr.eq ?_
  (refine t_def f110 rfl rfl ?_; simp -implicitDefEqProofs only [e110, startA, List.map, List.length, List.replicate, List.cons_append, List.nil_append, Nat.reduceAdd, Nat.reduceSub, Nat.zero_add])
  exists hlow
  exact ⟨rfl, rfl⟩
theorem gap_bt {b m i j : Nat} {w : Vec} (hw : ∀ i, i < m → bt b (w i)) (hi : i < m) (hj : j < m) : bt (b + 1) (w i - w j) := (hw i hi).sub (hw j hj)
theorem lyN_bdB {b m : Nat} {i j : Nat} (hi : i < m) (hj : j < m) : ∀ {L : List (Int × Int × Vec)} {s : Int × Int} {kt kb : Nat}, Lyb b m L → 0 < s.2 → bt kt s.1 → bt kb s.2 → kb ≤ kt → 0 < (lyN i j L s).2 ∧ bt (kt + (3 * b + 4) * L.length) (lyN i j L s).1 ∧ bt (kb + b * L.length) (lyN i j L s).2
  | [], s, kt, kb, _, h0, h1, h2, _ => ⟨h0, h1, h2⟩
  | q :: L, s, kt, kb, h, h0, h1, h2, hk => by
    obtain ⟨q1, q2, q3, q4, q5⟩ := h q (List.mem_cons_self ..)
    have hg := gap_bt q5 hi hj
    have a1 : bt (kt + (3 * b + 4)) (s.1 * q.2.1 + q.1 * ((q.2.2 i - q.2.2 j) * (q.2.2 i - q.2.2 j)) * s.2) := (((h1.mul q4).mono (show kt + b ≤ kt + 3 * b + 3 by omega)).add (((q2.mul (hg.mul hg)).mul h2).mono (show b + (b + 1 + (b + 1)) + kb ≤ kt + 3 * b + 3 by omega))).mono (by omega)
    have a2 : bt (kb + b) (s.2 * q.2.1) := h2.mul q4
    obtain ⟨c1, c2, c3⟩ := lyN_bdB hi hj (L := L) (s := (s.1 * q.2.1 + q.1 * ((q.2.2 i - q.2.2 j) * (q.2.2 i - q.2.2 j)) * s.2, s.2 * q.2.1)) (kt := kt + (3 * b + 4)) (kb := kb + b) (fun p hp => h p (List.mem_cons_of_mem _ hp)) (Int.mul_pos h0 (by omega)) a1 a2 (by omega)
    have e1 : kt + (3 * b + 4) + (3 * b + 4) * L.length = kt + (3 * b + 4) * (q :: L).length := by rw [List.length_cons, Nat.mul_succ]; omega
    have e2 : kb + b + b * L.length = kb + b * (q :: L).length := by rw [List.length_cons, Nat.mul_succ]; omega
    rw [e1] at c2
    rw [e2] at c3
    exact ⟨c1, c2, c3⟩
theorem layeredB {b m : Nat} {L : List (Int × Int × Vec)} (hL : Lyb b m L) (hb1 : 1 ≤ b) (hl : b * L.length ≤ 3900) {i j : Nat} (hi : i < m) (hj : j < m) (n : Nat) (g : G) : callN P (n + 4) 306 [papr m L, .int (i : Int), .int (j : Int)] g = .ok (fr (lyN i j L (0, 1)).1 (lyN i j L (0, 1)).2) g := by
  refine Tr.eq ?_
  (refine t_def f306 rfl rfl ?_; simp -implicitDefEqProofs only [e306, startA, List.map, List.length, List.replicate, List.cons_append, List.nil_append, Nat.reduceAdd, Nat.reduceSub, Nat.zero_add])
  (refine s_asgV fun K hK => ?_; fail "ev"; refine hK _ _ _ _ (by fail "kpd") (by fail "std") ?_; clear hK K)
  rw [show (AV.tup [.int 0, .int 1]) = fr 0 1 from rfl]
  refine s_forP L (k := lyv m) (g1 := g) (fun d σ g' => g' = g ∧ ∃ (a4 a5 a6 : Option AV), σ = [some (papr m L), some (.int (i : Int)), some (.int (j : Int)), some (fr (lyN i j d (0, 1)).1 (lyN i j d (0, 1)).2), a4, a5, a6]) (by fail "ev"; exact ⟨rfl, rfl⟩) ⟨rfl, none, none, none, rfl⟩ ?_ ?_
  · rintro d q c e σ g' ⟨hg', a4, a5, a6, rfl⟩
    subst hg'
    refine ⟨_, by fail "tgd", ?_⟩
    obtain ⟨q1, q2, q3, q4, q5⟩ := hL q (by rw [e]; simp)
    have hd : Lyb b m d := fun p hp => hL p (by rw [e]; simp [hp])
    have hlen : L.length = d.length + (c.length + 1) := by have := congrArg List.length e; simpa using this
    have hdl : b * d.length + b ≤ 3900 := by
      rw [hlen, Nat.mul_add, Nat.mul_add] at hl
      have : b * 1 = b := Nat.mul_one b
      omega
    obtain ⟨c1, c2, c3⟩ := lyN_bdB hi hj (L := d) (s := (0, 1)) (kt := 1) (kb := 1) hd (by decide) (show bt 1 0 by unfold bt; decide) (show bt 1 1 by unfold bt; decide) (by omega)
    have hg := gap_bt q5 hi hj
    have hq2 : (q.2.2 i - q.2.2 j) ^ Int.toNat 2 = (q.2.2 i - q.2.2 j) * (q.2.2 i - q.2.2 j) := sq2 _
    have hb0 : 0 < q.2.1 := by omega
    have b1 : bt (3 * b + 2) (q.1 * ((q.2.2 i - q.2.2 j) * (q.2.2 i - q.2.2 j))) := (q2.mul (hg.mul hg)).mono (by omega)
    have hbb : b ≤ 3900 := by omega
    have hlow := lowest (a := q.1 * ((q.2.2 i - q.2.2 j) * (q.2.2 i - q.2.2 j))) (b := q.2.1) (q4.mono (by omega)) hb0 (n + 1) g'
    have hadd := addedB (a := (lyN i j d (0, 1)).1) (b := (lyN i j d (0, 1)).2) (c := q.1 * ((q.2.2 i - q.2.2 j) * (q.2.2 i - q.2.2 j))) (d := q.2.1) (kt := 1 + (3 * b + 4) * d.length + (3 * b + 2)) (kb := 1 + b * d.length + b) c1 hb0 (c2.mono (by omega)) (c3.mono (by omega)) (b1.mono (by omega)) (q4.mono (by omega)) (by omega) (by
      have : (3 * b + 4) * d.length = 3 * (b * d.length) + 4 * d.length := by rw [Nat.add_mul, Nat.mul_assoc]
      have : d.length ≤ b * d.length := Nat.le_mul_of_pos_left _ hb1
      omega) n g'
    have e2 := lyN_snoc i j q d (0, 1)
    have hpo := powOk_bt hg (by omega)
    have m1 : mulOk q.1 ((q.2.2 i - q.2.2 j) * (q.2.2 i - q.2.2 j)) = true := mulOk_bt q2 (hg.mul hg) (by omega)
    refine s_asgV fun K hK => ?_
    fail "ev"
    rw [hq2]
    nomatch hlow
    refine Tr.of hadd ?_
    fail "ev"
    refine hK _ _ _ _ (by fail "kpd") (by fail "std") ?_
    clear hK K
    (with_reducible apply t_nil)
    rw [e2]
    exact ⟨rfl, _, _, _, rfl⟩
  · rintro σ g' ⟨hg', a4, a5, a6, rfl⟩
    subst hg'
    (refine s_ret ?_; fail "ev")
    exact ⟨rfl, rfl⟩

end My
end

section
set_option Elab.async false
set_option linter.all false
set_option maxRecDepth 100000
set_option maxHeartbeats 1600000
set_option pp.deepTerms false
set_option pp.deepTerms.threshold 9
open Ev PySem
namespace My
open LA
/-- a layer, as data -/
def layB (m : Nat) : AV → Bool
  | .tup [.int a, .int b, r] => decide (1 ≤ a) && decide (1 ≤ b) && numsB (m : Int) r
  | _ => false
def toL : AV → Int × Int × Vec
  | .tup [.int a, .int b, .tup xs] => (a, b, toV xs)
  | _ => (0, 0, fun _ => 0)
def layersB (m : Nat) (D : Nat → Nat → Int) : AV → Bool
  | .tup xs => xs.all (layB m) && lyB m D (xs.map toL)
  | _ => false
theorem lay_form {m : Nat} {v : AV} (h : layB m v = true) : ∃ (a b : Int) (xs : List AV), v = .tup [.int a, .int b, .tup xs] ∧ 1 ≤ a ∧ 1 ≤ b ∧ numsB (m : Int) (.tup xs) = true := by
  unfold layB at h
  split at h
  · rename_i a b r
    rw [Bool.and_eq_true, Bool.and_eq_true, decide_eq_true_eq, decide_eq_true_eq] at h
    obtain ⟨⟨h1, h2⟩, h3⟩ := h
    cases r with
    | tup xs => exact ⟨a, b, xs, rfl, h1, h2, h3⟩
    | _ => cases h3
  · cases h
theorem lay_is {m : Nat} {v : AV} (h : layB m v = true) : v = lyv m (toL v) := by
  obtain ⟨a, b, xs, rfl, h1, h2, h3⟩ := lay_form h
  show AV.tup [.int a, .int b, .tup xs] = .tup [.int a, .int b, row m (toV xs)]
  rw [nums_row h3]
theorem Dv.el {B L d : Nat} {xs : List AV} (h : Dv B L (d + 1) (.tup xs)) : ∀ x ∈ xs, Dv B L d x := by
  cases h with
  | tup h _ => exact h
theorem lay_bd {B L d m : Nat} {v : AV} (hv : Dv B L (d + 2) v) (h : layB m v = true) : 1 ≤ (toL v).1 ∧ bt B (toL v).1 ∧ 1 ≤ (toL v).2.1 ∧ bt B (toL v).2.1 ∧ ∀ i, i < m → bt B ((toL v).2.2 i) := by
  obtain ⟨a, b, xs, rfl, h1, h2, h3⟩ := lay_form h
  have he := hv.el
  have ha := he (.int a) (by simp)
  have hb := he (.int b) (by simp)
  have hx := (he (.tup xs) (by simp)).el
  refine ⟨h1, ?_, h2, ?_, fun i _ => toV_bt hx⟩
  · cases ha with | int h => exact h
  · cases hb with | int h => exact h
theorem Dv.up {B L d e : Nat} {v : AV} (h : Dv B L d v) (hd : d ≤ e) : Dv B L e v := h.mono (Nat.le_refl _) (Nat.le_refl _) hd
theorem layers_ly {B L d m : Nat} {xs : List AV} (hv : Dv B L d (.tup xs)) (h : xs.all (layB m) = true) : AV.tup xs = papr m (xs.map toL) ∧ Lyb B m (xs.map toL) := by
  rw [List.all_eq_true] at h
  constructor
  · unfold papr
    congr 1
    rw [List.map_map]
    exact (List.map_id xs).symm.trans (List.map_congr_left fun x hx => lay_is (h x hx))
  · intro q hq
    obtain ⟨x, hx, rfl⟩ := List.mem_map.mp hq
    exact lay_bd ((hv.up (show d ≤ d + 2 + 1 by omega)).el x hx) (h x hx)
/-- the program's look at a layer -/
theorem is_layer_dv {B L d m : Nat} {v : AV} (hv : Dv B L d v) (hL : L ≤ 9000) (n : Nat) (g : G) : callN P (n + 3) 305 [v, .int (m : Int)] g = .ok (.bl (layB m v)) g := by
  refine Tr.eq ?_
  cases hv with
  | tup he hl =>
    rename_i d xs
    by_cases h3 : (xs.length : Int) = 3
    · match xs, h3 with
      | [x, y, z], _ =>
        have hx := he x (List.mem_cons_self ..)
        have hy := he y (List.mem_cons_of_mem _ (List.mem_cons_self ..))
        have hz := he z (List.mem_cons_of_mem _ (List.mem_cons_of_mem _ (List.mem_cons_self ..)))
        have hxy : Dv B (L + 2) (d + 1) (.tup [x, y]) := .tup (fun u hu => by
          simp only [List.mem_cons, List.not_mem_nil, or_false] at hu
          rcases hu with rfl | rfl
          · exact hx.mono (Nat.le_refl _) (by omega) (Nat.le_refl _)
          · exact hy.mono (Nat.le_refl _) (by omega) (Nat.le_refl _)) (by simp)
        have h2 := are_numbers_dv hxy (by omega) 2 n g
        have e2 : numsB 2 (.tup [x, y]) = (isI x && isI y) := by
          show (decide ((2 : Int) = 2) && (isI x && (isI y && true))) = _
          rw [decide_eq_true rfl, Bool.true_and, Bool.and_true]
        rw [e2] at h2
        cases hi : (isI x && isI y) with
        | false =>
          rw [hi] at h2
          have hf : layB m (.tup [x, y, z]) = false := by
            unfold layB
            split
            · rename_i e
              cases e
              cases hi
            · rfl
          rw [hf]
          (refine t_def f305 rfl rfl ?_; simp -implicitDefEqProofs only [e305, startA, List.map, List.length, List.replicate, List.cons_append, List.nil_append, Nat.reduceAdd, Nat.reduceSub, Nat.zero_add])
          exists h2
          exact ⟨rfl, rfl⟩
        | true =>
          rw [hi] at h2
          obtain ⟨a, rfl⟩ : ∃ a, x = .int a := by cases x <;> first | exact ⟨_, rfl⟩ | cases hi
          obtain ⟨b, rfl⟩ : ∃ b, y = .int b := by cases y <;> first | exact ⟨_, rfl⟩ | cases hi
          have h5 := are_numbers_dv hz (by omega) (m : Int) n g
          have hs := hz.solid
          have e3 : layB m (.tup [.int a, .int b, z]) = (decide (1 ≤ a) && decide (1 ≤ b) && numsB (m : Int) z) := rfl
          by_cases hab : (if b < a then b else a) < 1
          · have hf : layB m (.tup [.int a, .int b, z]) = false := by
              rw [e3]
              by_cases h1 : 1 ≤ a
              · have h2 : ¬ 1 ≤ b := by split at hab <;> omega
                rw [decide_eq_false h2, Bool.and_false, Bool.false_and]
              · rw [decide_eq_false h1, Bool.false_and, Bool.false_and]
            rw [hf]
            (refine t_def f305 rfl rfl ?_; simp -implicitDefEqProofs only [e305, startA, List.map, List.length, List.replicate, List.cons_append, List.nil_append, Nat.reduceAdd, Nat.reduceSub, Nat.zero_add])
            exists h2
            exact ⟨rfl, rfl⟩
          · have hf : layB m (.tup [.int a, .int b, z]) = numsB (m : Int) z := by
              have h1 : 1 ≤ a := by split at hab <;> omega
              have h2 : 1 ≤ b := by split at hab <;> omega
              rw [e3, decide_eq_true h1, decide_eq_true h2, Bool.true_and, Bool.true_and]
            rw [hf]
            (refine t_def f305 rfl rfl ?_; simp -implicitDefEqProofs only [e305, startA, List.map, List.length, List.replicate, List.cons_append, List.nil_append, Nat.reduceAdd, Nat.reduceSub, Nat.zero_add])
            exists h2, h5
            exact ⟨rfl, rfl⟩
    · have hf : layB m (.tup xs) = false := by
        unfold layB
        split
        · rename_i e
          exact absurd (by cases e; rfl) h3
        · rfl
      rw [hf]
      (refine t_def f305 rfl rfl ?_; simp -implicitDefEqProofs only [e305, startA, List.map, List.length, List.replicate, List.cons_append, List.nil_append, Nat.reduceAdd, Nat.reduceSub, Nat.zero_add])
      fail "go"
      exact ⟨rfl, rfl⟩
  | _ => (refine t_def f305 rfl rfl ?_; simp -implicitDefEqProofs only [e305, startA, List.map, List.length, List.replicate, List.cons_append, List.nil_append, Nat.reduceAdd, Nat.reduceSub, Nat.zero_add]); fail "go"; exact ⟨rfl, rfl⟩

end My
end

section
set_option Elab.async false
set_option linter.all false
set_option maxRecDepth 100000
set_option maxHeartbeats 1600000
set_option pp.deepTerms false
set_option pp.deepTerms.threshold 9
open Ev PySem
namespace My
open LA
theorem prs_flat (m : Nat) : ((List.range m).flatMap fun i => (List.range i).map fun j => prv (i, j)) = (prs m).map prv := by
  unfold prs
  rw [List.map_flatMap]
  congr 1
  funext i
  rw [List.map_map]; rfl
theorem are_layers_dv {B L d m : Nat} {D : Nat → Nat → Int} {v : AV} (T : Tb m D) (hv : Dv B L d v) (hL : L ≤ 9000) (hB1 : 1 ≤ B) (hB : B * L ≤ 3900) (n : Nat) (g : G) : callN P (n + 5) 304 [tab m D, v] g = .ok (.bl (layersB m D v)) g := by
  refine Tr.eq ?_
  have hm8 := T.hi
  have hszp := prs_len hm8
  cases hv with
  | tup he hl =>
    rename_i d xs
    have hv : Dv B L (d + 1) (.tup xs) := .tup he hl
    (refine t_def f304 rfl rfl ?_; simp -implicitDefEqProofs only [e304, startA, List.map, List.length, List.replicate, List.cons_append, List.nil_append, Nat.reduceAdd, Nat.reduceSub, Nat.zero_add])
    refine s_if fun K hK => ?_
    fail "ev"
    refine w_compT xs (kx := fun x => x) (g1 := g) (fun x => .bl (layB m x)) (by fail "ev"; exact ⟨(List.map_id' xs).symm, rfl⟩) (le_sz (by omega)) ?_ ?_
    · intro x hx
      have hs := (he x hx).solid
      have hi := is_layer_dv (m := m) (he x hx) hL (n + 1) g
      refine ⟨_, by fail "tgd", ?_⟩
      fail "ev"
      rw [List.length_map, List.length_range]
      nomatch hi
      exact ⟨rfl, rfl⟩
    fail "ev"
    cases ha : xs.all (layB m) with
    | false =>
      show K (AV.bl true) g
      refine hK _ _ _ (by fail "tru") ?_
      fail "br"
      (refine s_ret ?_; fail "ev")
      refine ⟨?_, rfl⟩
      show _ = AV.bl (xs.all (layB m) && _)
      rw [ha, Bool.false_and]
    | true =>
      show K (AV.bl false) g
      refine hK _ _ _ (by fail "tru") ?_
      fail "br"
      clear hK K
      (with_reducible apply t_nil)
      obtain ⟨e1, hLy⟩ := layers_ly hv ha
      have e2 : layersB m D (.tup xs) = lyB m D (xs.map toL) := by
        show (xs.all (layB m) && _) = _
        rw [ha, Bool.true_and]
      have hlen : (xs.map toL).length ≤ L := by rw [List.length_map]; exact hl
      rw [e2, e1]
      generalize xs.map toL = Y at hLy hlen
      have hBY : B * Y.length ≤ 3900 := Nat.le_trans (Nat.mul_le_mul_left B hlen) hB
      refine s_asgV fun K hK => ?_
      refine w_comp2 (List.range m) (kx := fun i : Nat => AV.int (i : Int)) (g1 := g) (fun i => List.range i) (fun _ j => AV.int (j : Int)) (fun i j => prv (i, j)) (by fail "ev"; rw [List.length_map, List.length_range]; fail "ev"; exact ⟨rfl, rfl⟩) (by rw [prs_flat, List.length_map]; exact le_sz (by omega)) ?_ ?_
      · intro i hi
        have hi := List.mem_range.mp hi
        refine ⟨_, by fail "tgd", by fail "ev"; exact ⟨rfl, rfl⟩, fun j hj => ?_⟩
        refine ⟨_, by fail "tgd", ?_⟩
        fail "ev"
        exact ⟨rfl, rfl⟩
      rw [prs_flat]
      refine hK _ _ _ _ (by fail "kpd") (by fail "std") ?_
      clear hK K
      refine s_ret ?_
      fail "ev"
      refine w_compT (prs m) (kx := prv) (g1 := g) (fun q : Nat × Nat => AV.bl (decide ((lyN q.1 q.2 Y (0, 1)).1 = D q.1 q.2 * (lyN q.1 q.2 Y (0, 1)).2))) (by fail "ev"; exact ⟨rfl, rfl⟩) (le_sz (by omega)) ?_ ?_
      · rintro ⟨i, j⟩ hq
        obtain ⟨h1, h2⟩ := mem_prs.mp hq
        have hi : i < m := h1
        have hj : j < m := by have h2 : j < i := h2; omega
        have c1 := (lyN_bdB hi hj (L := Y) (s := (0, 1)) (kt := 1) (kb := 1) hLy (by decide) (show bt 1 0 by unfold bt; decide) (show bt 1 1 by unfold bt; decide) (by omega)).1
        have hly := layeredB hLy hB1 hBY hi hj n g
        have hfr := fr_is (a := (lyN i j Y (0, 1)).1) c1 (D i j)
        refine ⟨_, by fail "tgd", ?_⟩
        nomatch hly
        exact ⟨rfl, rfl⟩
      fail "ev"
      exact ⟨rfl, rfl⟩
  | _ => (refine t_def f304 rfl rfl ?_; simp -implicitDefEqProofs only [e304, startA, List.map, List.length, List.replicate, List.cons_append, List.nil_append, Nat.reduceAdd, Nat.reduceSub, Nat.zero_add]); fail "go"; exact ⟨rfl, rfl⟩

end My
end

section
set_option Elab.async false
set_option linter.all false
set_option maxRecDepth 100000
set_option maxHeartbeats 1600000
set_option pp.deepTerms false
set_option pp.deepTerms.threshold 9
open Ev PySem
namespace My
open LA
def betB (a b : Int) : AV → Bool
  | .int i => decide (a ≤ i) && decide (i ≤ b)
  | _ => false
def lenV : AV → Nat
  | .tup xs => xs.length
  | _ => 0
def dimV : AV → Int
  | .int i => i
  | _ => 0
def placedB (m : Nat) (D : Nat → Nat → Int) (c p : AV) : Bool := betB 0 7 c && layersB m D p && decide ((lenV p : Int) ≤ dimV c)
end My
end

section
set_option Elab.async false
set_option linter.all false
set_option maxRecDepth 100000
set_option maxHeartbeats 1600000
set_option pp.deepTerms false
set_option pp.deepTerms.threshold 9
open Ev PySem
namespace My
open LA
theorem papr_true {b m : Nat} {D : Nat → Nat → Int} {Y : List (Int × Int × Vec)} (hY : Lyb b m Y) (h : lyB m D Y = true) : layersB m D (papr m Y) = true := by
  have hl : ∀ q ∈ Y, layB m (lyv m q) = true := fun q hq => by
    obtain ⟨h1, _, h3, _⟩ := hY q hq
    show (decide (1 ≤ q.1) && decide (1 ≤ q.2.1) && numsB (m : Int) (row m q.2.2)) = true
    rw [decide_eq_true h1, decide_eq_true h3, nums_rowT]; rfl
  have hall : (Y.map (lyv m)).all (layB m) = true := by
    rw [List.all_map]
    exact List.all_eq_true.mpr fun q hq => hl q hq
  show ((Y.map (lyv m)).all (layB m) && lyB m D ((Y.map (lyv m)).map toL)) = true
  rw [hall, Bool.true_and]
  have hdv : ∀ i j, i < m → j < m → ∀ z, lyN i j ((Y.map (lyv m)).map toL) z = lyN i j Y z := fun i j hi hj => by
    clear hall h
    induction Y with
    | nil => intro z; rfl
    | cons q Y ih =>
      intro z
      rw [List.map_cons, List.map_cons, lyN, lyN, ih (fun p hp => hY p (List.mem_cons_of_mem _ hp)) (fun p hp => hl p (List.mem_cons_of_mem _ hp))]
      have e1 : (toL (lyv m q)).2.2 i = q.2.2 i := toV_row m q.2.2 hi
      have e2 : (toL (lyv m q)).2.2 j = q.2.2 j := toV_row m q.2.2 hj
      rw [e1, e2]
      rfl
  refine List.all_eq_true.mpr fun q hq => ?_
  obtain ⟨e1, e2⟩ := mem_prs.mp hq
  rw [hdv _ _ e1 (by omega)]
  exact List.all_eq_true.mp h q hq

end My
end

section
set_option Elab.async false
set_option linter.all false
set_option maxRecDepth 100000
set_option maxHeartbeats 1600000
set_option pp.deepTerms false
set_option pp.deepTerms.threshold 9
open Ev PySem
namespace My
open LA
def ratioB (c : AV) : Bool := numsB 2 c && (decide (0 < toV (itmV c) 1) && decide (Int.gcd (toV (itmV c) 0) (toV (itmV c) 1) = 1))
theorem nums_two {v : AV} (h : numsB 2 v = true) : v = .tup [.int (toV (itmV v) 0), .int (toV (itmV v) 1)] := by
  cases v with
  | tup xs => exact (nums_row (m := 2) h)
  | _ => cases h
theorem is_ratio_d {B L d : Nat} {c : AV} (hc : Dv B L d c) (hB : B ≤ 8000) (hL : L ≤ 9000) (n : Nat) (g : G) : callN P (n + 3) 303 [c] g = .ok (.bl (ratioB c)) g := by
  have h1 : callN P (n + 2) 301 [c, .int 2] g = .ok (.bl (numsB 2 c)) g := are_numbers_dv hc (by omega) 2 n g
  have hs := hc.solid
  refine Tr.eq ?_
  unfold ratioB
  cases hn : numsB 2 c with
  | false =>
    rw [hn] at h1
    (refine t_def f303 rfl rfl ?_; simp -implicitDefEqProofs only [e303, startA, List.map, List.length, List.replicate, List.cons_append, List.nil_append, Nat.reduceAdd, Nat.reduceSub, Nat.zero_add])
    (refine s_ret ?_; nomatch h1)
    exact ⟨rfl, rfl⟩
  | true =>
    rw [hn] at h1
    have e := nums_two hn
    have hb : bt B (toV (itmV c) 1) := by
      cases hc with
      | tup he hl => exact toV_bt he
      | _ => cases hn
    generalize toV (itmV c) 0 = a at e
    generalize toV (itmV c) 1 = b at e hb
    subst e
    have h2 := divisor (n + 1) a b (Nat.lt_of_lt_of_le hb (Nat.pow_le_pow_right (by decide) (by omega))) g
    rw [Bool.true_and]
    (refine t_def f303 rfl rfl ?_; simp -implicitDefEqProofs only [e303, startA, List.map, List.length, List.replicate, List.cons_append, List.nil_append, Nat.reduceAdd, Nat.reduceSub, Nat.zero_add])
    refine s_ret ?_
    by_cases h0 : 0 < b
    · rw [decide_eq_true h0, Bool.true_and]
      nomatch h1, h2
      refine ⟨?_, rfl⟩
      by_cases hg : Int.gcd a b = 1
      · rw [decide_eq_true hg, decide_eq_true (by omega)]
      · rw [decide_eq_false hg, decide_eq_false (by omega)]
    · rw [decide_eq_false h0, Bool.false_and]
      nomatch h1, h2
      exact ⟨by rw [decide_eq_false h0], rfl⟩
theorem min_le : ∀ (r : List Int) (i : Int), minL i r ≤ i ∧ ∀ x ∈ r, minL i r ≤ x
  | [], i => ⟨Int.le_refl _, fun x hx => by cases hx⟩
  | y :: r, i => by
    rw [minL]
    by_cases h : y < i
    · rw [if_pos h]
      obtain ⟨h1, h2⟩ := min_le r y
      refine ⟨by omega, fun x hx => ?_⟩
      rcases List.mem_cons.mp hx with rfl | hx
      · exact h1
      · exact h2 x hx
    · rw [if_neg h]
      obtain ⟨h1, h2⟩ := min_le r i
      refine ⟨h1, fun x hx => ?_⟩
      rcases List.mem_cons.mp hx with rfl | hx
      · omega
      · exact h2 x hx
theorem max_le : ∀ (r : List Int) (i : Int), i ≤ maxL i r ∧ ∀ x ∈ r, x ≤ maxL i r
  | [], i => ⟨Int.le_refl _, fun x hx => by cases hx⟩
  | y :: r, i => by
    rw [maxL]
    by_cases h : i < y
    · rw [if_pos h]
      obtain ⟨h1, h2⟩ := max_le r y
      refine ⟨by omega, fun x hx => ?_⟩
      rcases List.mem_cons.mp hx with rfl | hx
      · exact h1
      · exact h2 x hx
    · rw [if_neg h]
      obtain ⟨h1, h2⟩ := max_le r i
      refine ⟨h1, fun x hx => ?_⟩
      rcases List.mem_cons.mp hx with rfl | hx
      · omega
      · exact h2 x hx
theorem min_all : ∀ {r : List Int} {i : Int}, (∀ x ∈ r, x = i) → minL i r = i ∧ maxL i r = i
  | [], _, _ => ⟨rfl, rfl⟩
  | y :: r, i, h => by
    have e := h y (List.mem_cons_self ..)
    subst e
    rw [minL, maxL, if_neg (Int.lt_irrefl _)]
    exact min_all fun x hx => h x (List.mem_cons_of_mem _ hx)
def allS (m : Nat) (S : Nat → Int) : Bool := (List.range m).all fun i => decide (S i = S 0)
theorem min_max {m : Nat} {S : Nat → Int} (hm : 1 ≤ m) (g : G) : ∃ a b : Int, bfA g .min [.lst ((List.range m).map fun i => AV.int (S i))] = some (.int a) ∧ bfA g .max [.lst ((List.range m).map fun i => AV.int (S i))] = some (.int b) ∧ (decide (a = b) = allS m S) := by
  obtain ⟨k, rfl⟩ : ∃ k, m = k + 1 := ⟨m - 1, by omega⟩
  have e : (List.range (k + 1)).map (fun i => AV.int (S i)) = (S 0 :: (List.range k).map fun i => S (i + 1)).map AV.int := by
    rw [List.range_succ_eq_map, List.map_cons, List.map_map, List.map_cons, List.map_map]
    rfl
  have hi : intsOf ((List.range (k + 1)).map fun i => AV.int (S i)) = some (S 0 :: (List.range k).map fun i => S (i + 1)) := by rw [e, intsOf_map]
  refine ⟨minL (S 0) ((List.range k).map fun i => S (i + 1)), maxL (S 0) ((List.range k).map fun i => S (i + 1)), ?_, ?_, ?_⟩
  · show (match ((some ((List.range (k + 1)).map fun i => AV.int (S i))).bind intsOf) with
      | some (i :: r) => some (AV.int (minL i r))
      | _ => none) = _
    rw [Option.bind_some, hi]
  · show (match ((some ((List.range (k + 1)).map fun i => AV.int (S i))).bind intsOf) with
      | some (i :: r) => some (AV.int (maxL i r))
      | _ => none) = _
    rw [Option.bind_some, hi]
  · unfold allS
    rw [Bool.eq_iff_iff, decide_eq_true_eq, List.all_eq_true]
    obtain ⟨a1, a2⟩ := min_le ((List.range k).map fun i => S (i + 1)) (S 0)
    obtain ⟨b1, b2⟩ := max_le ((List.range k).map fun i => S (i + 1)) (S 0)
    constructor
    · intro h i hi
      have hi := List.mem_range.mp hi
      refine decide_eq_true ?_
      cases i with
      | zero => rfl
      | succ i =>
        have hm : S (i + 1) ∈ (List.range k).map fun i => S (i + 1) := List.mem_map.mpr ⟨i, List.mem_range.mpr (by omega), rfl⟩
        have := a2 _ hm
        have := b2 _ hm
        omega
    · intro h
      have := min_all (r := (List.range k).map fun i => S (i + 1)) (i := S 0) fun x hx => by
        obtain ⟨i, hi, rfl⟩ := List.mem_map.mp hx
        exact of_decide_eq_true (h (i + 1) (List.mem_range.mpr (by have := List.mem_range.mp hi; omega)))
      rw [this.1, this.2]
def sumW (m : Nat) (D : Nat → Nat → Int) (w : Vec) (i : Nat) : Int := sm (fun j => w j * D i j) m
def ballB (m : Nat) (D : Nat → Nat → Int) (c p : AV) : Bool := ratioB c && match p with
  | .tup [x, y] => layersB m D x && (numsB (m : Int) y && (!decide (sm (toV (itmV y)) m = 0) && (allS m (sumW m D (toV (itmV y))) && decide (2 * toV (itmV c) 0 * sm (toV (itmV y)) m = sumW m D (toV (itmV y)) 0 * toV (itmV c) 1))))
  | _ => false
theorem shows_ball_d {B L d B' L' d' m : Nat} {D : Nat → Nat → Int} {v c : AV} (T : Tb m D) (hc : Dv B' L' d' c) (hv : Dv B L d v) (hL : L ≤ 9000) (hL' : L' ≤ 9000) (hB1 : 1 ≤ B) (hB : B * L ≤ 3900) (hB2 : B ≤ 4000) (hB' : B' ≤ 8000) (n : Nat) (g : G) : callN P (n + 6) 302 [tab m D, .tup [c], v] g = .ok (.bl (ballB m D c v)) g := by
  have hm8 := T.hi
  have hm1 := T.lo
  have h1 : callN P (n + 5) 303 [c] g = .ok (.bl (ratioB c)) g := is_ratio_d hc hB' hL' (n + 2) g
  have hs1 := hc.solid
  have hs2 := hv.solid
  refine Tr.eq ?_
  unfold ballB
  cases hr : ratioB c with
  | false =>
    rw [hr] at h1
    (refine t_def f302 rfl rfl ?_; simp -implicitDefEqProofs only [e302, startA, List.map, List.length, List.replicate, List.cons_append, List.nil_append, Nat.reduceAdd, Nat.reduceSub, Nat.zero_add])
    exists h1
    exact ⟨rfl, rfl⟩
  | true =>
    rw [hr] at h1
    have hn2 : numsB 2 c = true := by
      unfold ratioB at hr
      rw [Bool.and_eq_true] at hr
      exact hr.1
    have ec := nums_two hn2
    have hca : bt B' (toV (itmV c) 0) ∧ bt B' (toV (itmV c) 1) := by
      cases hc with
      | tup he hl => exact ⟨toV_bt he, toV_bt he⟩
      | _ => cases hn2
    rw [Bool.true_and]
    cases hv with
    | tup he hl =>
      rename_i d xs
      by_cases h2 : xs.length = 2
      · obtain ⟨x, y, rfl⟩ : ∃ x y, xs = [x, y] := by
          match xs, h2 with
          | [x, y], _ => exact ⟨x, y, rfl⟩
        have hx := he x (List.mem_cons_self ..)
        have hy := he y (List.mem_cons_of_mem _ (List.mem_cons_self ..))
        have hxs := hx.solid
        have hys := hy.solid
        have hl1 : callN P (n + 5) 304 [tab m D, x] g = .ok (.bl (layersB m D x)) g := are_layers_dv T hx hL hB1 hB n g
        have hn1 : callN P (n + 5) 301 [y, .int (m : Int)] g = .ok (.bl (numsB (m : Int) y)) g := are_numbers_dv hy (by omega) (m : Int) (n + 3) g
        show Tr (callN P (n + 6) 302 [tab m D, .tup [c], .tup [x, y]] g) (fun v g1 => v = .bl (layersB m D x && (numsB (m : Int) y && (!decide (sm (toV (itmV y)) m = 0) && (allS m (sumW m D (toV (itmV y))) && decide (2 * toV (itmV c) 0 * sm (toV (itmV y)) m = sumW m D (toV (itmV y)) 0 * toV (itmV c) 1))))) ∧ g1 = g)
        (refine t_def f302 rfl rfl ?_; simp -implicitDefEqProofs only [e302, startA, List.map, List.length, List.replicate, List.cons_append, List.nil_append, Nat.reduceAdd, Nat.reduceSub, Nat.zero_add])
        (refine s_if fun K hK => ?_; nomatch h1; refine hK _ _ _ (by fail "tru") ?_; clear hK K)
        fail "br"
        (with_reducible apply t_nil)
        (refine s_asgT fun K hK => ?_; fail "ev"; refine hK _ _ _ (by fail "tgd") ?_; clear hK K)
        cases hlb : layersB m D x with
        | false =>
          rw [hlb] at hl1
          (refine s_if fun K hK => ?_; nomatch hl1; refine hK _ _ _ (by fail "tru") ?_; clear hK K)
          fail "br"
          (refine s_ret ?_; fail "ev")
          exact ⟨rfl, rfl⟩
        | true =>
          rw [hlb] at hl1
          cases hnb : numsB (m : Int) y with
          | false =>
            rw [hnb] at hn1
            refine s_if fun K hK => ?_
            nomatch hl1
            rw [List.length_map, List.length_range]
            nomatch hn1
            refine hK _ _ _ (by fail "tru") ?_
            fail "br"
            (refine s_ret ?_; fail "ev")
            exact ⟨rfl, rfl⟩
          | true =>
            rw [hnb] at hn1
            rw [Bool.true_and, Bool.true_and]
            cases hy with
            | tup hey hly =>
              rename_i d ys
              have hw : ∀ i, bt B (toV ys i) := fun i => toV_bt hey
              have ey := nums_row hnb
              generalize hwd : toV ys = w at hw ey
              have ew : toV (itmV (.tup ys)) = w := hwd
              rw [ew]
              clear hwd ew hey hly
              rw [ey] at hn1 ⊢
              have hsw : bt (B + 3) (sm w m) := sm_bt hm8 fun i _ => hw i
              have hsum : bfA g .sum [row m w] = some (.int (sm w m)) := by
                have := qsum_mapT g (fun j => w j) (List.range m)
                rw [sum_range] at this
                exact this
              refine s_if fun K hK => ?_
              nomatch hl1
              rw [List.length_map, List.length_range]
              nomatch hn1
              try rw [sum_range]
              by_cases h0 : sm w m = 0
              · refine hK _ _ _ (by fail "tru") ?_
                refine w_dt h0 ?_
                clear hK K
                (refine s_ret ?_; fail "ev")
                exact ⟨by rw [decide_eq_true h0]; rfl, rfl⟩
              · refine hK _ _ _ (by fail "tru") ?_
                refine w_df h0 ?_
                clear hK K
                (with_reducible apply t_nil)
                rw [decide_eq_false h0]
                refine s_asgV fun K hK => ?_
                refine w_compT (List.range m) (kx := fun i => row m (D i)) (g1 := g) (fun i => AV.int (sumW m D w i)) (by fail "ev"; exact ⟨rfl, rfl⟩) (le_sz (by rw [List.length_range]; omega)) ?_ ?_
                · intro i hi
                  have hi := List.mem_range.mp hi
                  refine ⟨_, by fail "tgd", ?_⟩
                  fail "ev"
                  refine w_compT (List.range m) (kx := fun j => AV.tup [.int (w j), .int (D i j)]) (g1 := g) (fun j => AV.int (w j * D i j)) (by fail "ev"; exact ⟨zip_rng _ _ _, rfl⟩) (le_sz (by rw [List.length_range]; omega)) ?_ ?_
                  · intro j hj
                    have hj := List.mem_range.mp hj
                    have b1 := T.b0 i j hi hj
                    have b2 := T.b1 i j hi hj
                    have m1 : mulOk (w j) (D i j) = true := mulOk_r (by omega) (by omega)
                    refine ⟨_, by fail "tgd", ?_⟩
                    fail "ev"
                    exact ⟨rfl, rfl⟩
                  fail "ev"
                  rw [sum_range]
                  exact ⟨rfl, rfl⟩
                refine hK _ _ _ _ (by fail "kpd") (by fail "std") ?_
                clear hK K
                obtain ⟨za, zb, q1, q2, q3⟩ := min_max (S := sumW m D w) hm1 g
                have hS0 : atI ((List.range m).map fun i => AV.int (sumW m D w i)) 0 = some (.int (sumW m D w 0)) := qat_rng (k := 0) _ (by omega)
                generalize hSS : AV.lst ((List.range m).map fun i => AV.int (sumW m D w i)) = SS at q1 q2
                have hSb : bt (B + 33) (sumW m D w 0) := by
                  refine (sm_bt (f := fun j => w j * D 0 j) (b := B + 30) hm8 fun j hj => (hw j).mul ?_).mono (by omega)
                  have b1 := T.b0 0 j hm1 hj
                  have b2 := T.b1 0 j hm1 hj
                  exact bt_small 1000000000 (by omega) (by decide)
                have hixS : idxA g SS (.int 0) = some (.int (sumW m D w 0)) := by rw [← hSS]; exact hS0
                have hSs : SS.solid = true := by rw [← hSS]; rfl
                rw [← q3]
                have e0 : idxA g (.tup [c]) (.int 0) = some c := rfl
                have ec0 : idxA g c (.int 0) = some (.int (toV (itmV c) 0)) := by
                  rw [congrArg (fun c => idxA g c (.int 0)) ec]; rfl
                have ec1 : idxA g c (.int 1) = some (.int (toV (itmV c) 1)) := by
                  rw [congrArg (fun c => idxA g c (.int 1)) ec]; rfl
                clear hSS hS0 q3 ec
                generalize toV (itmV c) 0 = a at hca ec0
                generalize toV (itmV c) 1 = b at hca ec1
                have m1 : mulOk 2 a = true := mulOk_l (by omega) (by omega)
                have m2 : mulOk (2 * a) (sm w m) = true := mulOk_bt (a := 8004) (b := 4004) (by
                  have := (bt_small (x := 2) (b := 2) 3 (by decide) (by decide)).mul hca.1
                  exact this.mono (by omega)) (hsw.mono (by omega)) (by omega)
                have m3 : mulOk (sumW m D w 0) b = true := mulOk_bt (a := 4100) (b := 8004) (hSb.mono (by omega)) (hca.2.mono (by omega)) (by omega)
                refine s_ret ?_
                by_cases hz : za = zb
                · rw [decide_eq_true hz]
                  fail "ev"
                  rw [sum_range]
                  fail "ev"
                  exact ⟨rfl, rfl⟩
                · rw [decide_eq_false hz]
                  fail "ev"
                  try rw [sum_range]
                  try fail "ev"
                  exact ⟨by rw [decide_eq_false hz]; rfl, rfl⟩
            | _ => cases hnb
      · have e : (match AV.tup xs with
          | .tup [x, y] => layersB m D x && (numsB (m : Int) y && (!decide (sm (toV (itmV y)) m = 0) && (allS m (sumW m D (toV (itmV y))) && decide (2 * toV (itmV c) 0 * sm (toV (itmV y)) m = sumW m D (toV (itmV y)) 0 * toV (itmV c) 1))))
          | _ => false) = false := by
          split
          · rename_i x y e
            cases e
            exact absurd rfl h2
          · rfl
        rw [e]
        (refine t_def f302 rfl rfl ?_; simp -implicitDefEqProofs only [e302, startA, List.map, List.length, List.replicate, List.cons_append, List.nil_append, Nat.reduceAdd, Nat.reduceSub, Nat.zero_add])
        (refine s_if fun K hK => ?_; nomatch h1; refine hK _ _ _ (by fail "tru") ?_; clear hK K)
        fail "br"
        (refine s_ret ?_; fail "ev")
        exact ⟨rfl, rfl⟩
    | _ => (refine t_def f302 rfl rfl ?_; simp -implicitDefEqProofs only [e302, startA, List.map, List.length, List.replicate, List.cons_append, List.nil_append, Nat.reduceAdd, Nat.reduceSub, Nat.zero_add]); exists h1; exact ⟨rfl, rfl⟩

end My
end

section
set_option Elab.async false
set_option linter.all false
set_option maxRecDepth 100000
set_option maxHeartbeats 1600000
set_option pp.deepTerms false
set_option pp.deepTerms.threshold 9
open Ev PySem
namespace My
open LA
theorem s_parO' {P : Pg} {call : CallT} {N : Sl → G → Prop} {Q : AV → G → Prop} {i j : Nat} {a b : E} {r : Ss} {σ : Sl} {g : G} (h : Tr (evE P call a σ g) fun x g1 => ∃ x', x.keep = some x' ∧ Tr (evE P call b σ g1) fun y g2 => ∃ y', y.put true = some y' ∧ TrS (evSs P call r ((σ.set i (some x')).set j (some y')) g2) N Q) : TrS (evSs P call (.cons (.parO i j a b) r) σ g) N Q := by
  obtain ⟨x, g1, h1, x', h2, h3⟩ := h.get
  obtain ⟨y, g2, h4, y', h5, h6⟩ := h3.get
  exact t_parO h1 h2 h4 h5 h6
theorem abs_ite (a : Int) : (0 : Int) ≤ (if a < 0 then -a else a) ∧ ∀ b, Int.gcd (if a < 0 then -a else a) b = Int.gcd a b := by
  split
  · exact ⟨by omega, fun b => Int.neg_gcd⟩
  · exact ⟨by omega, fun b => rfl⟩
theorem fmod_nn {x y : Int} (hy : 0 < y) : 0 ≤ x.fmod y ∧ (x.fmod y).natAbs < y.natAbs := ⟨Int.fmod_nonneg_of_pos x hy, fmod_lt (by omega)⟩
theorem fr_div {a b : Int} {x : Int} (hx : 0 ≤ x) (hb : 0 < b) (hg : Int.gcd x 0 = Int.gcd a b) : x ≠ 0 ∧ x = (Int.gcd a b : Int) ∧ a.fdiv x = a / (Int.gcd a b : Int) ∧ b.fdiv x = b / (Int.gcd a b : Int) := by
  rw [Int.gcd_zero_right] at hg
  have e : x = (Int.gcd a b : Int) := by omega
  have h0 : Int.gcd a b ≠ 0 := fun h => by
    have := (Int.gcd_eq_zero_iff.mp h).2
    omega
  exact ⟨by omega, e, by rw [← e]; exact Int.fdiv_eq_ediv_of_nonneg _ hx, by rw [← e]; exact Int.fdiv_eq_ediv_of_nonneg _ hx⟩
theorem law_low (n : Nat) (a b : Int) (hb0 : 0 < b) (hb : bt 8000 b) (g : G) : callN P (n + 1) 193 [.int a, .int b] g = .ok (fr a b) g := by
  refine t_eq f193 rfl rfl ?_
  simp -implicitDefEqProofs only [n193, startA, List.map, List.length, List.replicate, List.cons_append, List.nil_append, Nat.reduceAdd, Nat.reduceSub, Nat.zero_add]
  obtain ⟨q1, q2⟩ := abs_ite a
  refine t_par (vs := [.int (if a < 0 then -a else a), .int b]) (g1 := g) (by simp_all! []) rfl ?_
  refine t_whl (n := b.natAbs) (fun m σ g' => g' = g ∧ ∃ x y : Int, σ = [some (.int a), some (.int b), some (.int x), some (.int y)] ∧ 0 ≤ x ∧ 0 ≤ y ∧ y.natAbs = m ∧ Int.gcd x y = Int.gcd a b) ⟨rfl, _, _, rfl, q1, by omega, rfl, q2 b⟩ (Nat.lt_trans (show b.natAbs < 2 ^ 8000 from hb) (Nat.pow_lt_pow_right (by decide) (by decide))) ?_
  rintro m σ g' ⟨rfl, x, y, rfl, hx, hy, rfl, hg⟩
  refine ⟨decide (0 < y), g', by simp_all! [], ?_, ?_⟩
  · intro h
    have h := of_decide_eq_true h
    obtain ⟨f1, f2⟩ := fmod_nn (x := x) h
    refine t_par (vs := [.int y, .int (x.fmod y)]) (g1 := g') (by simp_all! [show decide (y ≠ 0) = true from decide_eq_true (by omega), show decide (y = 0) = false from decide_eq_false (by omega)]) rfl (t_nil ⟨(x.fmod y).natAbs, f2, rfl, y, x.fmod y, rfl, by omega, f1, rfl, ?_⟩)
    rw [gcd_fmod, hg]
  · intro h
    have h : ¬ 0 < y := of_decide_eq_false h
    have h : y = 0 := by omega
    subst h
    obtain ⟨d0, d1, d2, d3⟩ := fr_div hx hb0 hg
    have hdo : divOk x = true := by
      have : x.natAbs ≤ b.natAbs := by
        have := Int.gcd_le_natAbs_right (a := a) (b := b) (by omega)
        omega
      exact divOk_bt (a := 8000) (Nat.lt_of_le_of_lt this hb) d0 (by omega)
    refine t_ret (v := fr a b) (g1 := g') (by simp_all! [hdo, d2, d3]) rfl ⟨rfl, rfl⟩
theorem law_is_ratio {B L d : Nat} {c : AV} (hc : Dv B L d c) (hB : B ≤ 8000) (hd : d ≤ 50) (hL : L ≤ 9000) (n : Nat) (g : G) : callN P (n + 3) 195 [c] g = .ok (.bl (ratioB c)) g := by
  have h1 : callN P (n + 2) 186 [c, .int 2] g = .ok (.bl (numsB 2 c)) g := law_whole_row hc hd (by omega) 2 n g
  have hs := hc.solid
  refine Tr.eq ?_
  unfold ratioB
  cases hn : numsB 2 c with
  | false =>
    rw [hn] at h1
    (refine t_def f195 rfl rfl ?_; simp -implicitDefEqProofs only [e195, startA, List.map, List.length, List.replicate, List.cons_append, List.nil_append, Nat.reduceAdd, Nat.reduceSub, Nat.zero_add])
    exists h1
    exact ⟨rfl, rfl⟩
  | true =>
    rw [hn] at h1
    have e := nums_two hn
    have hb : bt B (toV (itmV c) 1) := by
      cases hc with
      | tup he hl => exact toV_bt he
      | _ => cases hn
    generalize toV (itmV c) 0 = a at e
    generalize toV (itmV c) 1 = b at e hb
    subst e
    obtain ⟨q1, q2⟩ := abs_ite a
    rw [Bool.true_and]
    (refine t_def f195 rfl rfl ?_; simp -implicitDefEqProofs only [e195, startA, List.map, List.length, List.replicate, List.cons_append, List.nil_append, Nat.reduceAdd, Nat.reduceSub, Nat.zero_add])
    by_cases h0 : b < 1
    · (refine s_if fun K hK => ?_; nomatch h1; refine hK _ _ _ (by fail "tru") ?_; clear hK K)
      fail "br"
      (refine s_ret ?_; fail "ev")
      exact ⟨by rw [decide_eq_false (show ¬ 0 < b by omega)]; rfl, rfl⟩
    · (refine s_if fun K hK => ?_; nomatch h1; refine hK _ _ _ (by fail "tru") ?_; clear hK K)
      fail "br"
      (with_reducible apply t_nil)
      refine t_par (vs := [.int (if a < 0 then -a else a), .int b]) (g1 := g) (by simp_all! []) rfl ?_
      refine t_whl (n := b.natAbs) (fun m σ g' => g' = g ∧ ∃ x y : Int, σ = [some (.tup [.int a, .int b]), some (.int x), some (.int y)] ∧ 0 ≤ x ∧ 0 ≤ y ∧ y.natAbs = m ∧ Int.gcd x y = Int.gcd a b) ⟨rfl, _, _, rfl, q1, by omega, rfl, q2 b⟩ (Nat.lt_of_lt_of_le (show b.natAbs < 2 ^ B from hb) (Nat.le_of_lt (Nat.pow_lt_pow_right (by decide) (by omega)))) ?_
      rintro m σ g' ⟨rfl, x, y, rfl, hx, hy, rfl, hg⟩
      refine ⟨decide (0 < y), g', by simp_all! [], ?_, ?_⟩
      · intro h
        have h := of_decide_eq_true h
        obtain ⟨f1, f2⟩ := fmod_nn (x := x) h
        refine t_par (vs := [.int y, .int (x.fmod y)]) (g1 := g') (by simp_all! [show decide (y ≠ 0) = true from decide_eq_true (by omega), show decide (y = 0) = false from decide_eq_false (by omega)]) rfl (t_nil ⟨(x.fmod y).natAbs, f2, rfl, y, x.fmod y, rfl, by omega, f1, rfl, ?_⟩)
        rw [gcd_fmod, hg]
      · intro h
        have h : ¬ 0 < y := of_decide_eq_false h
        have h : y = 0 := by omega
        subst h
        obtain ⟨d0, d1, d2, d3⟩ := fr_div hx (by omega) hg
        (refine s_ret ?_; fail "ev")
        refine ⟨?_, rfl⟩
        rw [decide_eq_true (show 0 < b by omega), Bool.true_and]
        by_cases hz : x = 1
        · rw [decide_eq_true hz, decide_eq_true (by omega)]
        · rw [decide_eq_false hz, decide_eq_false (by omega)]

end My
end

section
set_option Elab.async false
set_option linter.all false
set_option maxRecDepth 100000
set_option maxHeartbeats 1600000
set_option pp.deepTerms false
set_option pp.deepTerms.threshold 9
open Ev PySem
namespace My
open LA
theorem law_are_layers {B L d m : Nat} {D : Nat → Nat → Int} {v : AV} (T : Tb m D) (hv : Dv B L d v) (hd : d ≤ 40) (hL : L ≤ 9000) (hB1 : 1 ≤ B) (hB : B * L ≤ 3900) (n : Nat) (g : G) : callN P (n + 3) 87 [tab m D, v] g = .ok (.bl (layersB m D v)) g := by
  refine Tr.eq ?_
  have hm8 := T.hi
  cases hv with
  | tup he hl =>
    rename_i d xs
    have hv : Dv B L (d + 1) (.tup xs) := .tup he hl
    (refine t_def f87 rfl rfl ?_; simp -implicitDefEqProofs only [e87, startA, List.map, List.length, List.replicate, List.cons_append, List.nil_append, Nat.reduceAdd, Nat.reduceSub, Nat.zero_add])
    (refine s_if fun K hK => ?_; fail "ev"; refine hK _ _ _ (by fail "tru") ?_; clear hK K)
    fail "br"
    (with_reducible apply t_nil)
    refine s_forP xs (k := fun x => x) (g1 := g) (fun a σ g' => g' = g ∧ a.all (layB m) = true ∧ ∃ a2 : Option AV, σ = [some (tab m D), some (.tup xs), a2, none, none, none, none, none]) (by fail "ev"; exact ⟨(List.map_id' xs).symm, rfl⟩) ⟨rfl, rfl, none, rfl⟩ ?_ ?_
    · rintro a x c hx σ g' ⟨hg', hall, a2, rfl⟩
      subst hg'
      have hxd : Dv B L d x := he x (by rw [hx]; simp)
      have hxs := hxd.solid
      refine ⟨_, by fail "tgd", ?_⟩
      -- what a bad one comes to
      have bad : layB m x = false → layersB m D (.tup xs) = false := fun h => by
        show (xs.all (layB m) && _) = false
        have : xs.all (layB m) = false := by
          rw [hx, List.all_append, List.all_cons, h, Bool.false_and, Bool.and_false]
        rw [this, Bool.false_and]
      have good : layB m x = true → (a ++ [x]).all (layB m) = true := fun h => by
        rw [List.all_append, hall, List.all_cons, h]; rfl
      cases hxd with
      | tup he2 hl2 =>
        rename_i d ys
        by_cases h3 : (ys.length : Int) = 3
        · match ys, h3 with
          | [x, y, z], _ =>
            have hxx := he2 x (List.mem_cons_self ..)
            have hy := he2 y (List.mem_cons_of_mem _ (List.mem_cons_self ..))
            have hz := he2 z (List.mem_cons_of_mem _ (List.mem_cons_of_mem _ (List.mem_cons_self ..)))
            have s1 := hxx.solid
            have s2 := hy.solid
            have s3 := hz.solid
            have h5 := law_whole_row hz (by omega) (by omega) (m : Int) n g'
            have hxy : Dv B (L + 2) (d + 1) (.tup [x, y]) := .tup (fun u hu => by
              simp only [List.mem_cons, List.not_mem_nil, or_false] at hu
              rcases hu with rfl | rfl
              · exact hxx.mono (Nat.le_refl _) (by omega) (Nat.le_refl _)
              · exact hy.mono (Nat.le_refl _) (by omega) (Nat.le_refl _)) (by simp)
            have h2 := law_whole_row hxy (by omega) (by omega) 2 n g'
            have e2 : numsB 2 (.tup [x, y]) = (isI x && isI y) := by
              show (decide ((2 : Int) = 2) && (isI x && (isI y && true))) = _
              rw [decide_eq_true rfl, Bool.true_and, Bool.and_true]
            rw [e2] at h2
            have hmm : (((List.range m).map fun i => row m (D i)).length : Int) = (m : Int) := by rw [List.length_map, List.length_range]
            cases hn : numsB (m : Int) z with
            | false =>
              rw [hn] at h5
              have hf : layB m (.tup [x, y, z]) = false := by
                unfold layB
                split
                · rename_i e
                  cases e
                  rw [hn, Bool.and_false]
                · rfl
              refine s_if fun K hK => ?_
              fail "ev"
              rw [hmm]
              nomatch h5
              refine hK _ _ _ (by fail "tru") ?_
              fail "br"
              (refine s_ret ?_; fail "ev")
              exact ⟨by rw [bad hf], rfl⟩
            | true =>
              rw [hn] at h5
              refine s_if fun K hK => ?_
              fail "ev"
              rw [hmm]
              nomatch h5
              refine hK _ _ _ (by fail "tru") ?_
              fail "br"
              clear hK K
              (with_reducible apply t_nil)
              cases hi : (isI x && isI y) with
              | false =>
                rw [hi] at h2
                have hf : layB m (.tup [x, y, z]) = false := by
                  unfold layB
                  split
                  · rename_i e
                    cases e
                    cases hi
                  · rfl
                (refine s_if fun K hK => ?_; nomatch h2; refine hK _ _ _ (by fail "tru") ?_; clear hK K)
                fail "br"
                (refine s_ret ?_; fail "ev")
                exact ⟨by rw [bad hf], rfl⟩
              | true =>
                rw [hi] at h2
                obtain ⟨p, rfl⟩ : ∃ a, x = .int a := by cases x <;> first | exact ⟨_, rfl⟩ | cases hi
                obtain ⟨q, rfl⟩ : ∃ b, y = .int b := by cases y <;> first | exact ⟨_, rfl⟩ | cases hi
                have e3 : layB m (.tup [.int p, .int q, z]) = (decide (1 ≤ p) && decide (1 ≤ q)) := by
                  show (decide (1 ≤ p) && decide (1 ≤ q) && numsB (m : Int) z) = _
                  rw [hn, Bool.and_true]
                by_cases hab : (if q < p then q else p) < 1
                · have hf : layB m (.tup [.int p, .int q, z]) = false := by
                    rw [e3]
                    by_cases h1 : 1 ≤ p
                    · have h2 : ¬ 1 ≤ q := by split at hab <;> omega
                      rw [decide_eq_false h2, Bool.and_false]
                    · rw [decide_eq_false h1, Bool.false_and]
                  (refine s_if fun K hK => ?_; nomatch h2; refine hK _ _ _ (by fail "tru") ?_; clear hK K)
                  fail "br"
                  (refine s_ret ?_; fail "ev")
                  exact ⟨by rw [bad hf], rfl⟩
                · have hf : layB m (.tup [.int p, .int q, z]) = true := by
                    have h1 : 1 ≤ p := by split at hab <;> omega
                    have h2 : 1 ≤ q := by split at hab <;> omega
                    rw [e3, decide_eq_true h1, decide_eq_true h2]; rfl
                  (refine s_if fun K hK => ?_; nomatch h2; refine hK _ _ _ (by fail "tru") ?_; clear hK K)
                  fail "br"
                  (with_reducible apply t_nil)
                  (with_reducible apply t_nil)
                  exact ⟨rfl, good hf, _, rfl⟩
        · have hf : layB m (.tup ys) = false := by
            unfold layB
            split
            · rename_i e
              exact absurd (by cases e; rfl) h3
            · rfl
          (refine s_if fun K hK => ?_; fail "ev"; refine hK _ _ _ (by fail "tru") ?_; clear hK K)
          fail "br"
          (refine s_ret ?_; fail "ev")
          exact ⟨by rw [bad hf], rfl⟩
      | _ =>
        (refine s_if fun K hK => ?_; fail "ev"; refine hK _ _ _ (by fail "tru") ?_; clear hK K)
        fail "br"
        (refine s_ret ?_; fail "ev")
        exact ⟨by rw [bad rfl], rfl⟩
    rintro σ g' ⟨hg', ha, a2, rfl⟩
    subst hg'
    obtain ⟨e1, hLy⟩ := layers_ly hv ha
    have e2 : layersB m D (.tup xs) = lyB m D (xs.map toL) := by
      show (xs.all (layB m) && _) = _
      rw [ha, Bool.true_and]
    have hlen : (xs.map toL).length ≤ L := by rw [List.length_map]; exact hl
    rw [e2, e1]
    generalize xs.map toL = Y at hLy hlen
    have hBY : B * Y.length ≤ 3900 := Nat.le_trans (Nat.mul_le_mul_left B hlen) hB
    have bd : ∀ {i j : Nat} {Z : List (Int × Int × Vec)}, i < m → j < m → Lyb B m Z → B * Z.length ≤ 3900 → bt 30000 (lyN i j Z (0, 1)).1 ∧ bt 4000 (lyN i j Z (0, 1)).2 := fun {i j Z} hi hj hZ hz => by
      obtain ⟨c1, c2, c3⟩ := lyN_bdB hi hj (L := Z) (s := (0, 1)) (kt := 1) (kb := 1) hZ (by decide) (show bt 1 0 by unfold bt; decide) (show bt 1 1 by unfold bt; decide) (by omega)
      have h1 : (3 * B + 4) * Z.length = 3 * (B * Z.length) + 4 * Z.length := by rw [Nat.add_mul, Nat.mul_assoc]
      have h2 : Z.length ≤ B * Z.length := Nat.le_mul_of_pos_left _ hB1
      exact ⟨c2.mono (by omega), c3.mono (by omega)⟩
    have no : ∀ {i j : Nat}, i < m → j < i → ¬ (lyN i j Y (0, 1)).1 = D i j * (lyN i j Y (0, 1)).2 → lyB m D Y = false := fun {i j} hi hj h => by
      unfold lyB
      rw [List.all_eq_false]
      exact ⟨(i, j), mem_prs.mpr ⟨hi, hj⟩, by rw [decide_eq_false h]; decide⟩
    refine s_forN m (k := fun i : Nat => AV.int (i : Int)) (g1 := g') (fun i σ g1 => g1 = g' ∧ (∀ p q, p < i → q < p → (lyN p q Y (0, 1)).1 = D p q * (lyN p q Y (0, 1)).2) ∧ ∃ a2 a3 a4 a5 a6 a7 : Option AV, σ = [some (tab m D), some (papr m Y), a2, a3, a4, a5, a6, a7]) (by fail "ev"; rw [List.length_map, List.length_range]; fail "ev"; exact ⟨rfl, rfl⟩) ⟨rfl, fun p q hp => absurd hp (by omega), _, _, _, _, _, _, rfl⟩ ?_ ?_
    · rintro i hi σ g1 ⟨hg1, hdone, a2, a3, a4, a5, a6, a7, rfl⟩
      subst hg1
      refine ⟨_, by fail "tgd", ?_⟩
      refine s_forN i (k := fun j : Nat => AV.int (j : Int)) (g1 := g1) (fun j σ g2 => g2 = g1 ∧ (∀ q, q < j → (lyN i q Y (0, 1)).1 = D i q * (lyN i q Y (0, 1)).2) ∧ ∃ a2 a4 a5 a6 a7 : Option AV, σ = [some (tab m D), some (papr m Y), a2, some (.int (i : Int)), a4, a5, a6, a7]) (by fail "ev"; exact ⟨rfl, rfl⟩) ⟨rfl, fun q hq => absurd hq (by omega), _, _, _, _, _, rfl⟩ ?_ ?_
      · rintro j hj σ g2 ⟨hg2, hdone2, a2, a4, a5, a6, a7, rfl⟩
        subst hg2
        have hjm : j < m := by omega
        refine ⟨_, by fail "tgd", ?_⟩
        (refine s_asgT fun K hK => ?_; fail "ev"; refine hK _ _ _ (by fail "tgd") ?_; clear hK K)
        refine s_forP Y (k := lyv m) (g1 := g2) (fun z σ g3 => g3 = g2 ∧ ∃ a2 a7 : Option AV, σ = [some (tab m D), some (papr m Y), a2, some (.int (i : Int)), some (.int (j : Int)), some (.int (lyN i j z (0, 1)).1), some (.int (lyN i j z (0, 1)).2), a7]) (by fail "ev"; exact ⟨rfl, rfl⟩) ⟨rfl, _, _, rfl⟩ ?_ ?_
        · rintro z q c hzq σ g3 ⟨hg3, a2, a7, rfl⟩
          subst hg3
          refine ⟨_, by fail "tgd", ?_⟩
          obtain ⟨q1, q2, q3, q4, q5⟩ := hLy q (by rw [hzq]; simp)
          have hz : Lyb B m z := fun p hp => hLy p (by rw [hzq]; simp [hp])
          have hzl : Y.length = z.length + (c.length + 1) := by have := congrArg List.length hzq; simpa using this
          have hzB : B * z.length ≤ 3900 := Nat.le_trans (Nat.mul_le_mul_left B (by omega)) hBY
          have hBb : B ≤ 3900 := Nat.le_trans (Nat.le_mul_of_pos_right B (by omega)) hBY
          obtain ⟨c2, c3⟩ := bd hi hjm hz hzB
          have hgp := gap_bt q5 hi hjm
          have m1 : mulOk (lyN i j z (0, 1)).1 q.2.1 = true := mulOk_bt c2 q4 (by omega)
          have m2 : mulOk q.1 (q.2.2 i - q.2.2 j) = true := mulOk_bt q2 hgp (by omega)
          have m3 : mulOk (q.1 * (q.2.2 i - q.2.2 j)) (q.2.2 i - q.2.2 j) = true := mulOk_bt (q2.mul hgp) hgp (by omega)
          have m4 : mulOk (q.1 * (q.2.2 i - q.2.2 j) * (q.2.2 i - q.2.2 j)) (lyN i j z (0, 1)).2 = true := mulOk_bt ((q2.mul hgp).mul hgp) c3 (by omega)
          have m5 : mulOk (lyN i j z (0, 1)).2 q.2.1 = true := mulOk_bt c3 q4 (by omega)
          (refine s_asgV fun K hK => ?_; fail "ev"; refine hK _ _ _ _ (by fail "kpd") (by fail "std") ?_; clear hK K)
          (refine s_par fun K hK => ?_; fail "ev"; refine hK _ _ _ (by fail "tgd") ?_; clear hK K)
          (with_reducible apply t_nil)
          rw [lyN_snoc, Int.mul_assoc q.1]
          exact ⟨rfl, _, _, rfl⟩
        · rintro σ g3 ⟨hg3, a2, a7, rfl⟩
          subst hg3
          obtain ⟨c2, c3⟩ := bd hi hjm hLy hBY
          have m6 : mulOk (D i j) (lyN i j Y (0, 1)).2 = true := mulOk_bt (T.bt60 i j hi hjm) c3 (by omega)
          by_cases hE : (lyN i j Y (0, 1)).1 = D i j * (lyN i j Y (0, 1)).2
          · (refine s_if fun K hK => ?_; fail "ev"; refine hK _ _ _ (by fail "tru") ?_; clear hK K)
            fail "br"
            (with_reducible apply t_nil)
            (with_reducible apply t_nil)
            refine ⟨rfl, fun q hq => ?_, _, _, _, _, _, rfl⟩
            by_cases hqj : q = j
            · subst hqj; exact hE
            · exact hdone2 q (by omega)
          · (refine s_if fun K hK => ?_; fail "ev"; refine hK _ _ _ (by fail "tru") ?_; clear hK K)
            fail "br"
            (refine s_ret ?_; fail "ev")
            exact ⟨by rw [no hi hj hE], rfl⟩
      · rintro σ g2 ⟨hg2, hdone2, a2, a4, a5, a6, a7, rfl⟩
        subst hg2
        (with_reducible apply t_nil)
        refine ⟨rfl, fun p q hp hq => ?_, _, _, _, _, _, _, rfl⟩
        by_cases hpi : p = i
        · subst hpi; exact hdone2 q hq
        · exact hdone p q (by omega) hq
    · rintro σ g1 ⟨hg1, hdone, a2, a3, a4, a5, a6, a7, rfl⟩
      subst hg1
      (refine s_ret ?_; fail "ev")
      refine ⟨?_, rfl⟩
      congr 1
      refine (List.all_eq_true.mpr fun q hq => ?_).symm
      obtain ⟨h1, h2⟩ := mem_prs.mp hq
      exact decide_eq_true (hdone _ _ h1 h2)
  | _ => (refine t_def f87 rfl rfl ?_; simp -implicitDefEqProofs only [e87, startA, List.map, List.length, List.replicate, List.cons_append, List.nil_append, Nat.reduceAdd, Nat.reduceSub, Nat.zero_add]); fail "go"; exact ⟨rfl, rfl⟩

end My
end

section
set_option Elab.async false
set_option linter.all false
set_option maxRecDepth 100000
set_option maxHeartbeats 1600000
set_option pp.deepTerms false
set_option pp.deepTerms.threshold 9
open Ev PySem
namespace My
open LA
theorem law_is_ball {B L d B' L' d' m : Nat} {D : Nat → Nat → Int} {v c : AV} (T : Tb m D) (hc : Dv B' L' d' c) (hv : Dv B L d v) (hd : d ≤ 40) (hd' : d' ≤ 40) (hL : L ≤ 9000) (hL' : L' ≤ 9000) (hB1 : 1 ≤ B) (hB : B * L ≤ 3900) (hB2 : B ≤ 4000) (hB' : B' ≤ 8000) (n : Nat) (g : G) : callN P (n + 4) 194 [tab m D, c, v] g = .ok (.bl (ballB m D c v)) g := by
  have hm8 := T.hi
  have hm1 := T.lo
  have h1 : callN P (n + 3) 195 [c] g = .ok (.bl (ratioB c)) g := law_is_ratio hc hB' (by omega) hL' n g
  have hs1 := hc.solid
  have hs2 := hv.solid
  refine Tr.eq ?_
  unfold ballB
  cases hr : ratioB c with
  | false =>
    rw [hr] at h1
    (refine t_def f194 rfl rfl ?_; simp -implicitDefEqProofs only [e194, startA, List.map, List.length, List.replicate, List.cons_append, List.nil_append, Nat.reduceAdd, Nat.reduceSub, Nat.zero_add])
    exists h1
    exact ⟨rfl, rfl⟩
  | true =>
    rw [hr] at h1
    have hn2 : numsB 2 c = true := by
      unfold ratioB at hr
      rw [Bool.and_eq_true] at hr
      exact hr.1
    have ec := nums_two hn2
    have hca : bt B' (toV (itmV c) 0) ∧ bt B' (toV (itmV c) 1) := by
      cases hc with
      | tup he hl => exact ⟨toV_bt he, toV_bt he⟩
      | _ => cases hn2
    rw [Bool.true_and]
    cases hv with
    | tup he hl =>
      rename_i d xs
      by_cases h2 : xs.length = 2
      · obtain ⟨x, y, rfl⟩ : ∃ x y, xs = [x, y] := by
          match xs, h2 with
          | [x, y], _ => exact ⟨x, y, rfl⟩
        have hx := he x (List.mem_cons_self ..)
        have hy := he y (List.mem_cons_of_mem _ (List.mem_cons_self ..))
        have hxs := hx.solid
        have hys := hy.solid
        have hl1 : callN P (n + 3) 87 [tab m D, x] g = .ok (.bl (layersB m D x)) g := law_are_layers T hx (by omega) hL hB1 hB n g
        have hn1 : callN P (n + 3) 186 [y, .int (m : Int)] g = .ok (.bl (numsB (m : Int) y)) g := law_whole_row hy (by omega) (by omega) (m : Int) (n + 1) g
        show Tr (callN P (n + 4) 194 [tab m D, c, .tup [x, y]] g) (fun v g1 => v = .bl (layersB m D x && (numsB (m : Int) y && (!decide (sm (toV (itmV y)) m = 0) && (allS m (sumW m D (toV (itmV y))) && decide (2 * toV (itmV c) 0 * sm (toV (itmV y)) m = sumW m D (toV (itmV y)) 0 * toV (itmV c) 1))))) ∧ g1 = g)
        (refine t_def f194 rfl rfl ?_; simp -implicitDefEqProofs only [e194, startA, List.map, List.length, List.replicate, List.cons_append, List.nil_append, Nat.reduceAdd, Nat.reduceSub, Nat.zero_add])
        (refine s_if fun K hK => ?_; nomatch h1; refine hK _ _ _ (by fail "tru") ?_; clear hK K)
        fail "br"
        (with_reducible apply t_nil)
        refine s_asgT fun K hK => ?_
        fail "ev"
        rw [List.length_map, List.length_range]
        refine hK _ _ _ (by fail "tgd") ?_
        clear hK K
        cases hlb : layersB m D x with
        | false =>
          rw [hlb] at hl1
          (refine s_if fun K hK => ?_; nomatch hl1; refine hK _ _ _ (by fail "tru") ?_; clear hK K)
          fail "br"
          (refine s_ret ?_; fail "ev")
          exact ⟨rfl, rfl⟩
        | true =>
          rw [hlb] at hl1
          cases hnb : numsB (m : Int) y with
          | false =>
            rw [hnb] at hn1
            (refine s_if fun K hK => ?_; nomatch hl1, hn1; refine hK _ _ _ (by fail "tru") ?_; clear hK K)
            fail "br"
            (refine s_ret ?_; fail "ev")
            exact ⟨rfl, rfl⟩
          | true =>
            rw [hnb] at hn1
            rw [Bool.true_and, Bool.true_and]
            cases hy with
            | tup hey hly =>
              rename_i d ys
              have hw : ∀ i, bt B (toV ys i) := fun i => toV_bt hey
              have ey := nums_row hnb
              generalize hwd : toV ys = w at hw ey
              have ew : toV (itmV (.tup ys)) = w := hwd
              rw [ew]
              clear hwd ew hey hly
              rw [ey] at hn1 ⊢
              have hsw : bt (B + 3) (sm w m) := sm_bt hm8 fun i _ => hw i
              refine s_if fun K hK => ?_
              nomatch hl1, hn1
              try rw [sum_range]
              by_cases h0 : sm w m = 0
              · refine hK _ _ _ (by fail "tru") ?_
                refine w_dt h0 ?_
                clear hK K
                (refine s_ret ?_; fail "ev")
                exact ⟨by rw [decide_eq_true h0]; rfl, rfl⟩
              · refine hK _ _ _ (by fail "tru") ?_
                refine w_df h0 ?_
                clear hK K
                (with_reducible apply t_nil)
                rw [decide_eq_false h0]
                refine s_asgV fun K hK => ?_
                refine w_compT (List.range m) (kx := fun i : Nat => AV.int (i : Int)) (g1 := g) (fun i => AV.int (sumW m D w i)) (by fail "ev"; exact ⟨rfl, rfl⟩) (le_sz (by rw [List.length_range]; omega)) ?_ ?_
                · intro i hi
                  have hi := List.mem_range.mp hi
                  refine ⟨_, by fail "tgd", ?_⟩
                  fail "ev"
                  refine w_compT (List.range m) (kx := fun j : Nat => AV.int (j : Int)) (g1 := g) (fun j => AV.int (w j * D i j)) (by fail "ev"; exact ⟨rfl, rfl⟩) (le_sz (by rw [List.length_range]; omega)) ?_ ?_
                  · intro j hj
                    have hj := List.mem_range.mp hj
                    have b1 := T.b0 i j hi hj
                    have b2 := T.b1 i j hi hj
                    have m1 : mulOk (w j) (D i j) = true := mulOk_r (by omega) (by omega)
                    refine ⟨_, by fail "tgd", ?_⟩
                    fail "ev"
                    exact ⟨rfl, rfl⟩
                  fail "ev"
                  rw [sum_range]
                  exact ⟨rfl, rfl⟩
                refine hK _ _ _ _ (by fail "kpd") (by fail "std") ?_
                clear hK K
                obtain ⟨za, zb, q1, q2, q3⟩ := min_max (S := sumW m D w) hm1 g
                have hS0 : atI ((List.range m).map fun i => AV.int (sumW m D w i)) 0 = some (.int (sumW m D w 0)) := qat_rng (k := 0) _ (by omega)
                generalize hSS : AV.lst ((List.range m).map fun i => AV.int (sumW m D w i)) = SS at q1 q2
                have hSb : bt (B + 33) (sumW m D w 0) := by
                  refine (sm_bt (f := fun j => w j * D 0 j) (b := B + 30) hm8 fun j hj => (hw j).mul ?_).mono (by omega)
                  have b1 := T.b0 0 j hm1 hj
                  have b2 := T.b1 0 j hm1 hj
                  exact bt_small 1000000000 (by omega) (by decide)
                have hixS : idxA g SS (.int 0) = some (.int (sumW m D w 0)) := by rw [← hSS]; exact hS0
                have hSs : SS.solid = true := by rw [← hSS]; rfl
                rw [← q3]
                have ec0 : idxA g c (.int 0) = some (.int (toV (itmV c) 0)) := by
                  rw [congrArg (fun c => idxA g c (.int 0)) ec]; rfl
                have ec1 : idxA g c (.int 1) = some (.int (toV (itmV c) 1)) := by
                  rw [congrArg (fun c => idxA g c (.int 1)) ec]; rfl
                clear hSS hS0 q3 ec
                generalize toV (itmV c) 0 = a at hca ec0
                generalize toV (itmV c) 1 = b at hca ec1
                have m1 : mulOk 2 a = true := mulOk_l (by omega) (by omega)
                have m2 : mulOk (2 * a) (sm w m) = true := mulOk_bt (a := 8004) (b := 4004) (by
                  have := (bt_small (x := 2) (b := 2) 3 (by decide) (by decide)).mul hca.1
                  exact this.mono (by omega)) (hsw.mono (by omega)) (by omega)
                have m3 : mulOk (sumW m D w 0) b = true := mulOk_bt (a := 4100) (b := 8004) (hSb.mono (by omega)) (hca.2.mono (by omega)) (by omega)
                refine s_ret ?_
                by_cases hz : za = zb
                · rw [decide_eq_true hz]
                  fail "ev"
                  rw [sum_range]
                  fail "ev"
                  exact ⟨rfl, rfl⟩
                · rw [decide_eq_false hz]
                  fail "ev"
                  try rw [sum_range]
                  try fail "ev"
                  exact ⟨by rw [decide_eq_false hz]; rfl, rfl⟩
            | _ => cases hnb
      · have e : ballB m D c (.tup xs) = false := by
          unfold ballB
          rw [hr, Bool.true_and]
          split
          · rename_i x y e
            cases e
            exact absurd rfl h2
          · rfl
        unfold ballB at e
        rw [hr, Bool.true_and] at e
        rw [e]
        (refine t_def f194 rfl rfl ?_; simp -implicitDefEqProofs only [e194, startA, List.map, List.length, List.replicate, List.cons_append, List.nil_append, Nat.reduceAdd, Nat.reduceSub, Nat.zero_add])
        (refine s_if fun K hK => ?_; nomatch h1; refine hK _ _ _ (by fail "tru") ?_; clear hK K)
        fail "br"
        (refine s_ret ?_; fail "ev")
        exact ⟨rfl, rfl⟩
    | _ => (refine t_def f194 rfl rfl ?_; simp -implicitDefEqProofs only [e194, startA, List.map, List.length, List.replicate, List.cons_append, List.nil_append, Nat.reduceAdd, Nat.reduceSub, Nat.zero_add]); exists h1; exact ⟨rfl, rfl⟩
theorem holds_ball_dv {B L d B' L' d' m : Nat} {D : Nat → Nat → Int} {v c : AV} (T : Tb m D) (hc : Dv B' L' d' c) (hv : Dv B L d v) (hL : L ≤ 9000) (hL' : L' ≤ 9000) (hB1 : 1 ≤ B) (hB : B * L ≤ 3900) (hB2 : B ≤ 4000) (hB' : B' ≤ 8000) (n : Nat) (g : G) : callN P (n + 7) 197 [.tup [.str "ball", tab m D, c], v] g = .ok (.bl (ballB m D c v)) g := by
  have hs := hv.solid
  have hs1 := hc.solid
  have hsh : callN P (n + 6) 302 [tab m D, .tup [c], v] g = .ok (.bl (ballB m D c v)) g := shows_ball_d T hc hv hL hL' hB1 hB hB2 hB' n g
  have h4 := are_rows T n g
  have hin : inTA true ["placed", "not placed", "needs", "ball", "alike", "unlike", "range"] (.str "ball") = some (.bl false) := by kernel_rfl
  refine Tr.eq ?_
  (refine t_def f197 rfl rfl ?_; simp -implicitDefEqProofs only [e197, startA, List.map, List.length, List.replicate, List.cons_append, List.nil_append, Nat.reduceAdd, Nat.reduceSub, Nat.zero_add])
  (refine s_if fun K hK => ?_; fail "ev"; refine hK _ _ _ (by fail "tru") ?_; clear hK K)
  fail "br"
  (with_reducible apply t_nil)
  (refine s_asgT fun K hK => ?_; fail "ev"; refine hK _ _ _ (by fail "tgd") ?_; clear hK K)
  (refine s_ret ?_; nomatch h4, hsh)
  exact ⟨rfl, rfl⟩

end My
end

section
set_option Elab.async false
set_option linter.all false
set_option maxRecDepth 100000
set_option maxHeartbeats 1600000
set_option pp.deepTerms false
set_option pp.deepTerms.threshold 9
open Ev PySem
namespace My
open LA
/-- the table of points -/
abbrev tof (c : Nat) (p : Nat → Nat → Int) : Nat → Nat → Int := fun i j => sqd c (p i) (p j)
/-- the form of points: twice their products from the first one -/
theorem form_tof (c : Nat) (p : Nat → Nat → Int) (i j : Nat) : form (tof c p) i j = 2 * sm (fun k => (p (i + 1) k - p 0 k) * (p (j + 1) k - p 0 k)) c := by
  unfold form tof sqd
  rw [← sm_add, ← sm_sub, ← sm_mul]
  exact sm_congr fun k _ => by grind
theorem sm_prod (f h : Nat → Int) (n m : Nat) : sm f n * sm h m = sm (fun i => sm (fun j => f i * h j) m) n := by
  have e : ∀ i, sm (fun j => f i * h j) m = f i * sm h m := fun i => sm_mul _ _ _
  simp only [e]
  rw [sm_mulr]
theorem sq_nn (x : Int) : 0 ≤ x * x := by
  rcases Int.le_total 0 x with z | z
  · exact Int.mul_nonneg z z
  · exact Int.mul_nonneg_of_nonpos_of_nonpos z z
theorem qf_tof (m c : Nat) (p : Nat → Nat → Int) (x : Vec) : qf m (form (tof c p)) x = 2 * sm (fun k => sm (fun i => x i * (p (i + 1) k - p 0 k)) m * sm (fun i => x i * (p (i + 1) k - p 0 k)) m) c := by
  have e1 : ∀ k, sm (fun i => x i * (p (i + 1) k - p 0 k)) m * sm (fun i => x i * (p (i + 1) k - p 0 k)) m = sm (fun i => sm (fun j => (x i * (p (i + 1) k - p 0 k)) * (x j * (p (j + 1) k - p 0 k))) m) m := fun k => sm_prod _ _ _ _
  simp only [e1]
  rw [sm_swap (fun k i => sm (fun j => (x i * (p (i + 1) k - p 0 k)) * (x j * (p (j + 1) k - p 0 k))) m) m c, ← sm_mul]
  unfold qf
  refine sm_congr fun i _ => ?_
  rw [sm_swap (fun k j => (x i * (p (i + 1) k - p 0 k)) * (x j * (p (j + 1) k - p 0 k))) m c, ← sm_mul]
  unfold dot
  rw [← sm_mul]
  refine sm_congr fun j _ => ?_
  rw [form_tof]
  have e : sm (fun k => (x i * (p (i + 1) k - p 0 k)) * (x j * (p (j + 1) k - p 0 k))) c = x i * x j * sm (fun k => (p (i + 1) k - p 0 k) * (p (j + 1) k - p 0 k)) c := by
    rw [← sm_mul]; exact sm_congr fun k _ => by grind
  rw [e]; grind
theorem psd_tof (m c : Nat) (p : Nat → Nat → Int) : Psd m (form (tof c p)) := by
  intro x
  rw [qf_tof]
  exact Int.mul_nonneg (by decide) (sm_nn fun k _ => sq_nn _)

end My
end

section
set_option Elab.async false
set_option linter.all false
set_option maxRecDepth 100000
set_option maxHeartbeats 1600000
set_option pp.deepTerms false
set_option pp.deepTerms.threshold 9
open Ev PySem
namespace My
open LA RA
/-- a fraction as the program has it -/
abbrev fq (x : Rat) : AV := .tup [.int x.num, .int (x.den : Int)]
theorem rat_of {x : Int} {y : Nat} (hy : y ≠ 0) (hc : x.natAbs.Coprime y) : ((x : Rat) / ((y : Nat) : Rat)).num = x ∧ ((x : Rat) / ((y : Nat) : Rat)).den = y := by
  have h := Rat.mkRat_self ⟨x, y, hy, hc⟩
  rw [Rat.mkRat_eq_div] at h
  rw [h]
  exact ⟨rfl, rfl⟩
theorem fq_pair {x y : Int} (hy : 0 < y) (hc : Int.gcd x y = 1) : fq ((x : Rat) / (y : Rat)) = .tup [.int x, .int y] := by
  obtain ⟨k, rfl⟩ : ∃ k : Nat, y = k := ⟨y.toNat, by omega⟩
  obtain ⟨h1, h2⟩ := rat_of (x := x) (y := k) (by omega) hc
  have e : ((k : Int) : Rat) = ((k : Nat) : Rat) := rfl
  unfold fq
  rw [e, h1, h2]
theorem cast_ne {z : Int} (h : z ≠ 0) : ((z : Int) : Rat) ≠ 0 := fun e => h (Rat.intCast_inj.mp (e.trans rfl))
theorem low_parts {a b : Int} (h0 : b ≠ 0) : ∃ G x y : Int, 0 < G ∧ (Int.gcd a b : Int) = G ∧ a = G * x ∧ b = G * y ∧ Int.gcd x y = 1 := by
  have g1 : 0 < Int.gcd a b := by
    have : Int.gcd a b ≠ 0 := fun z => by rw [Int.gcd_eq_zero_iff] at z; omega
    omega
  obtain ⟨x, hx⟩ := Int.gcd_dvd_left a b
  obtain ⟨y, hy⟩ := Int.gcd_dvd_right a b
  refine ⟨_, x, y, by omega, rfl, hx, hy, ?_⟩
  have h := Int.gcd_mul_left (Int.gcd a b : Int) x y
  rw [← hx, ← hy] at h
  have h2 : Int.gcd a b * Int.gcd x y = Int.gcd a b * 1 := by
    rw [Nat.mul_one]
    exact h.symm
  exact Nat.eq_of_mul_eq_mul_left g1 h2
theorem low {a b : Int} (hb : bt 8000 b) (h0 : b ≠ 0) (n : Nat) (g : G) : callN P (n + 2) 69 [.int a, .int b] g = .ok (fq ((a : Rat) / (b : Rat))) g := by
  obtain ⟨G, x, y, hG, eG, ea, eb, hc⟩ := low_parts (a := a) h0
  have hGr : ((G : Int) : Rat) ≠ 0 := cast_ne (by omega)
  have hy0 : y ≠ 0 := fun e => h0 (by rw [eb, e, Int.mul_zero])
  have hbr : ((y : Int) : Rat) ≠ 0 := cast_ne hy0
  have er : (a : Rat) / (b : Rat) = (x : Rat) / (y : Rat) := by
    rw [ea, eb, Rat.intCast_mul, Rat.intCast_mul]
    grind
  have hax : a / G = x := Int.ediv_eq_of_eq_mul_right (by omega) ea
  have hby : b / G = y := Int.ediv_eq_of_eq_mul_right (by omega) eb
  by_cases hp : 0 < b
  · have hy : 0 < y := by
      rcases Int.lt_trichotomy y 0 with h | h | h
      · have := Int.mul_neg_of_pos_of_neg hG h; omega
      · rw [h, Int.mul_zero] at eb; omega
      · exact h
    rw [lowest hb hp n g, er, fq_pair hy hc, eG, hax, hby]
  · have hy : 0 < -y := by
      rcases Int.lt_trichotomy y 0 with h | h | h
      · omega
      · rw [h, Int.mul_zero] at eb; omega
      · have := Int.mul_pos hG h; omega
    have e2 : (x : Rat) / (y : Rat) = ((-x : Int) : Rat) / ((-y : Int) : Rat) := by
      rw [Rat.intCast_neg, Rat.intCast_neg]
      grind
    have hc2 : Int.gcd (-x) (-y) = 1 := by rw [Int.gcd_neg, Int.neg_gcd]; exact hc
    rw [er, e2, fq_pair hy hc2]
    have hd := divisor n a b (Nat.lt_of_lt_of_le hb (Nat.pow_le_pow_right (by decide) (by decide))) g
    have hpf : decide (0 < b) = false := decide_eq_false hp
    have hdo : divOk (-G) = true := by
      refine divOk_bt (a := 8000) ?_ (by omega) (by omega)
      have := bt_dvd hb h0 (Int.gcd_dvd_right a b)
      rw [eG] at this
      exact this.neg
    have fd : ∀ x : Int, x.fdiv (-G) = (-x) / G := fun x => by
      have := Int.neg_fdiv_neg (-x) G
      rw [Int.neg_neg] at this
      rw [this]
      exact Int.fdiv_eq_ediv_of_nonneg _ (by omega)
    have hax2 : (-a) / G = -x := Int.ediv_eq_of_eq_mul_right (by omega) (by rw [ea, Int.mul_neg])
    have hby2 : (-b) / G = -y := Int.ediv_eq_of_eq_mul_right (by omega) (by rw [eb, Int.mul_neg])
    rw [eG] at hd
    refine t_eq f69 rfl rfl ?_
    simp -implicitDefEqProofs only [n69, startA, List.map, List.length, List.replicate, List.cons_append, List.nil_append, Nat.reduceAdd, Nat.reduceSub, Nat.zero_add]
    refine t_asg (v := .int (-G)) (σ1 := [some (.int a), some (.int b), some (.int (-G))]) (g1 := g) (g2 := g) (by simp_all! [hpf, hd]) rfl ?_
    exact t_ret (v := .tup [.int (-x), .int (-y)]) (g1 := g) (by simp_all! [hdo, fd, hax2, hby2]) rfl ⟨rfl, rfl⟩
theorem bqm {b c : Nat} {x y : Int} (h : bt b x) (k : bt c y) (l : b + c ≤ 100000000) : mulOk x y = true := mulOk_bt h k (by omega)
theorem num_den (x : Rat) : (x.num : Rat) / ((x.den : Int) : Rat) = x := by
  have h := Rat.mkRat_self x
  rw [Rat.mkRat_eq_div] at h
  exact h
theorem den_ne (x : Rat) : (x.den : Int) ≠ 0 := by have := x.den_nz; omega
theorem num_ne {x : Rat} (h : x ≠ 0) : x.num ≠ 0 := fun e => h (by
  have := num_den x
  rw [e] at this
  rw [← this]
  have h2 : ((0 : Int) : Rat) = 0 := rfl
  rw [h2]
  grind)
theorem product {x y : Rat} {b : Nat} (hx : bq b x) (hy : bq b y) (hb : b ≤ 4000) (n : Nat) (g : G) : callN P (n + 3) 108 [fq x, fq y] g = .ok (fq (x * y)) g := by
  have m1 := bqm hx.1 hy.1 (by omega)
  have m2 := bqm hx.2 hy.2 (by omega)
  have h := low (a := x.num * y.num) (b := (x.den : Int) * (y.den : Int)) ((hx.2.mul hy.2).mono (by omega)) (Int.mul_ne_zero (den_ne x) (den_ne y)) n g
  have e : ((x.num * y.num : Int) : Rat) / (((x.den : Int) * (y.den : Int) : Int) : Rat) = x * y := by
    have h1 := num_den x
    have h2 := num_den y
    have d1 := cast_ne (den_ne x)
    have d2 := cast_ne (den_ne y)
    rw [Rat.intCast_mul, Rat.intCast_mul, ← h1, ← h2]
    grind
  rw [e] at h
  refine Tr.eq ?_
  (refine t_def f108 rfl rfl ?_; simp -implicitDefEqProofs only [e108, startA, List.map, List.length, List.replicate, List.cons_append, List.nil_append, Nat.reduceAdd, Nat.reduceSub, Nat.zero_add])
  (refine s_ret ?_; nomatch h)
  exact ⟨rfl, rfl⟩
theorem quotient {x y : Rat} {b : Nat} (hx : bq b x) (hy : bq b y) (hb : b ≤ 4000) (h0 : y ≠ 0) (n : Nat) (g : G) : callN P (n + 3) 107 [fq x, fq y] g = .ok (fq (x / y)) g := by
  have m1 := bqm hx.1 hy.2 (by omega)
  have m2 := bqm hx.2 hy.1 (by omega)
  have h := low (a := x.num * (y.den : Int)) (b := (x.den : Int) * y.num) ((hx.2.mul hy.1).mono (by omega)) (Int.mul_ne_zero (den_ne x) (num_ne h0)) n g
  have e : ((x.num * (y.den : Int) : Int) : Rat) / (((x.den : Int) * y.num : Int) : Rat) = x / y := by
    have h1 := num_den x
    have h2 := num_den y
    have d1 := cast_ne (den_ne x)
    have d2 := cast_ne (den_ne y)
    have d3 := cast_ne (num_ne h0)
    rw [Rat.intCast_mul, Rat.intCast_mul]
    grind
  rw [e] at h
  refine Tr.eq ?_
  (refine t_def f107 rfl rfl ?_; simp -implicitDefEqProofs only [e107, startA, List.map, List.length, List.replicate, List.cons_append, List.nil_append, Nat.reduceAdd, Nat.reduceSub, Nat.zero_add])
  (refine s_ret ?_; nomatch h)
  exact ⟨rfl, rfl⟩
theorem addedQ {x y : Rat} {b : Nat} (hx : bq b x) (hy : bq b y) (hb : b ≤ 4000) (n : Nat) (g : G) : callN P (n + 3) 110 [fq x, fq y] g = .ok (fq (x + y)) g := by
  have m1 := bqm hx.1 hy.2 (by omega)
  have m2 := bqm hy.1 hx.2 (by omega)
  have m3 := bqm hx.2 hy.2 (by omega)
  have h := low (a := x.num * (y.den : Int) + y.num * (x.den : Int)) (b := (x.den : Int) * (y.den : Int)) ((hx.2.mul hy.2).mono (by omega)) (Int.mul_ne_zero (den_ne x) (den_ne y)) n g
  have e : ((x.num * (y.den : Int) + y.num * (x.den : Int) : Int) : Rat) / (((x.den : Int) * (y.den : Int) : Int) : Rat) = x + y := by
    have h1 := num_den x
    have h2 := num_den y
    have d1 := cast_ne (den_ne x)
    have d2 := cast_ne (den_ne y)
    rw [Rat.intCast_add, Rat.intCast_mul, Rat.intCast_mul, Rat.intCast_mul]
    grind
  rw [e] at h
  refine Tr.eq ?_
  (refine t_def f110 rfl rfl ?_; simp -implicitDefEqProofs only [e110, startA, List.map, List.length, List.replicate, List.cons_append, List.nil_append, Nat.reduceAdd, Nat.reduceSub, Nat.zero_add])
  (refine s_ret ?_; nomatch h)
  exact ⟨rfl, rfl⟩
theorem fq_neg (x : Rat) : fq (-x) = .tup [.int (-x.num), .int (x.den : Int)] := rfl
theorem bq_neg {b : Nat} {x : Rat} (h : bq b x) : bq b (-x) := ⟨by
  have : (-x).num = -x.num := rfl
  rw [this]; exact h.1.neg, h.2⟩
theorem takenQ {x y : Rat} {b : Nat} (hx : bq b x) (hy : bq b y) (hb : b ≤ 4000) (n : Nat) (g : G) : callN P (n + 4) 109 [fq x, fq y] g = .ok (fq (x - y)) g := by
  have h := addedQ hx (bq_neg hy) hb n g
  rw [fq_neg, show x + -y = x - y from by grind] at h
  refine Tr.eq ?_
  (refine t_def f109 rfl rfl ?_; simp -implicitDefEqProofs only [e109, startA, List.map, List.length, List.replicate, List.cons_append, List.nil_append, Nat.reduceAdd, Nat.reduceSub, Nat.zero_add])
  (refine s_ret ?_; nomatch h)
  exact ⟨rfl, rfl⟩

end My
end

section
set_option Elab.async false
set_option linter.all false
set_option maxRecDepth 100000
set_option maxHeartbeats 1600000
set_option pp.deepTerms false
set_option pp.deepTerms.threshold 9
open Ev PySem
namespace My
open LA RA
abbrev fqrow (n : Nat) (R : Nat → Rat) : AV := .lst ((List.range n).map fun q => fq (R q))
abbrev fqtab (m n : Nat) (R : Nat → Nat → Rat) : AV := .lst ((List.range m).map fun i => fqrow n (R i))
theorem bq_mul {b c : Nat} {x y : Rat} (hx : bq b x) (hy : bq c y) : bq (b + c) (x * y) := by
  refine bq_of (Z := (x.den : Int) * (y.den : Int)) (N := x.num * y.num) (Int.mul_ne_zero (den_ne x) (den_ne y)) ?_ (hx.2.mul hy.2) (hx.1.mul hy.1)
  have h1 := num_den x
  have h2 := num_den y
  have d1 := cast_ne (den_ne x)
  have d2 := cast_ne (den_ne y)
  rw [Rat.intCast_mul, Rat.intCast_mul, ← h1, ← h2]
  grind
theorem bq_div {b c : Nat} {x y : Rat} (hx : bq b x) (hy : bq c y) (h0 : y ≠ 0) : bq (b + c) (x / y) := by
  refine bq_of (Z := (x.den : Int) * y.num) (N := x.num * (y.den : Int)) (Int.mul_ne_zero (den_ne x) (num_ne h0)) ?_ (hx.2.mul hy.1) (hx.1.mul hy.2)
  have h1 := num_den x
  have h2 := num_den y
  have d1 := cast_ne (den_ne x)
  have d2 := cast_ne (den_ne y)
  have d3 := cast_ne (num_ne h0)
  rw [Rat.intCast_mul, Rat.intCast_mul]
  grind
theorem bq_mono {b c : Nat} {x : Rat} (h : bq b x) (l : b ≤ c) : bq c x := ⟨h.1.mono l, h.2.mono l⟩
theorem cleared {m w k p b : Nat} {R : Nat → Nat → Rat} (hm : m ≤ 1000) (hw : w ≤ 1000) (hk : k < m) (hp : p < w) (h0 : R k p ≠ 0) (hb : b ≤ 1000) (hR : ∀ i q, i < m → q < w → bq b (R i q)) (n : Nat) (g : G) : callN P (n + 5) 106 [fqtab m w R, .int (k : Int), .int (p : Int)] g = .ok (.own ((List.range m).map fun i => fqrow w (clr k p R i))) g := by
  have hix : ∀ i, i < m → atI ((List.range m).map fun i => fqrow w (R i)) (i : Int) = some (fqrow w (R i)) := fun i hi => qat_rng _ hi
  have hiy : ∀ i q, q < w → atI ((List.range w).map fun q => fq (R i q)) (q : Int) = some (fq (R i q)) := fun i q hq => qat_rng _ hq
  have hk1 := hix k hk
  have hkp := hiy k p hp
  refine Tr.eq ?_
  (refine t_def f106 rfl rfl ?_; simp -implicitDefEqProofs only [e106, startA, List.map, List.length, List.replicate, List.cons_append, List.nil_append, Nat.reduceAdd, Nat.reduceSub, Nat.zero_add])
  (refine s_asgV fun K hK => ?_; fail "ev"; refine hK _ _ _ _ (by fail "kpd") (by fail "std") ?_; clear hK K)
  refine s_asgV fun K hK => ?_
  fail "ev"
  refine w_compT (List.range w) (kx := fun q => fq (R k q)) (g1 := g) (fun q => fq (R k q / R k p)) (by fail "ev"; exact ⟨rfl, rfl⟩) (le_sz (by rw [List.length_range]; omega)) ?_ ?_
  · intro q hq
    have hq := List.mem_range.mp hq
    have h1 := quotient (hR k q hk hq) (hR k p hk hp) (by omega) h0 (n + 1) g
    refine ⟨_, by fail "tgd", ?_⟩
    nomatch h1
    exact ⟨rfl, rfl⟩
  refine hK _ _ _ _ (by fail "kpd") (by fail "std") ?_
  clear hK K
  (refine s_asgV fun K hK => ?_; fail "ev"; refine hK _ _ _ _ (by fail "kpd") (by fail "std") ?_; clear hK K)
  refine s_forN m (k := fun i : Nat => AV.tup [.int (i : Int), fqrow w (R i)]) (g1 := g) (fun t σ g' => g' = g ∧ ∃ a5 a7 a8 a9 a10, σ = [some (fqtab m w R), some (.int (k : Int)), some (.int (p : Int)), some (fq (R k p)), some (fqrow w fun q => R k q / R k p), a5, some (.own ((List.range t).map fun i => fqrow w (clr k p R i))), a7, a8, a9, a10]) (by fail "ev"; exact ⟨enum_rng _ _, rfl⟩) ⟨rfl, _, _, _, _, _, rfl⟩ ?_ ?_
  · rintro t ht σ g' ⟨rfl, a5, a7, a8, a9, a10, rfl⟩
    have htp := hiy t p hp
    refine ⟨_, by fail "tgd", ?_⟩
    (refine s_asgV fun K hK => ?_; fail "ev"; refine hK _ _ _ _ (by fail "kpd") (by fail "std") ?_; clear hK K)
    refine s_appO rfl fun K hK => ?_
    have hsn : (List.range (t + 1)).map (fun i => fqrow w (clr k p R i)) = (List.range t).map (fun i => fqrow w (clr k p R i)) ++ [fqrow w (clr k p R t)] := by
      rw [List.range_succ, List.map_append]; rfl
    by_cases e : t = k
    · have hrow : fqrow w (clr k p R t) = fqrow w fun q => R k q / R k p := by
        have : clr k p R t = fun q => R k q / R k p := by funext q; exact if_pos e
        rw [this]
      have hd : decide ((t : Int) = (k : Int)) = true := decide_eq_true (by omega)
      nomatch hd
      refine hK _ _ _ _ _ rfl (by rw [List.length_map, List.length_range]; exact Nat.lt_of_le_of_lt (show t ≤ 1000 by omega) (by decide)) ((congrArg (fun z => (List.range t).map (fun i => fqrow w (clr k p R i)) ++ [z]) hrow.symm).trans hsn.symm) (by fail "std") ?_
      clear hK K
      (with_reducible apply t_nil)
      exact ⟨rfl, _, _, _, _, _, rfl⟩
    · have er : clr k p R t = fun q => R t q - R t p * (R k q / R k p) := by funext q; exact if_neg e
      have hrow : fqrow w (clr k p R t) = fqrow w fun q => R t q - R t p * (R k q / R k p) := by rw [er]
      have hd : decide ((t : Int) = (k : Int)) = false := decide_eq_false (by omega)
      nomatch hd
      refine w_compT (List.range w) (kx := fun q => AV.tup [fq (R t q), fq (R k q / R k p)]) (g1 := g') (fun q => fq (R t q - R t p * (R k q / R k p))) (by fail "ev"; exact ⟨zip_rng _ _ _, rfl⟩) (le_sz (by rw [List.length_range]; omega)) ?_ ?_
      · intro q hq
        have hq := List.mem_range.mp hq
        have b1 := bq_div (hR k q hk hq) (hR k p hk hp) h0
        have b2 := bq_mul (hR t p ht hp) b1
        have h1 := product (bq_mono (hR t p ht hp) (show b ≤ b + b by omega)) b1 (by omega) (n + 1) g'
        have h2 := takenQ (bq_mono (hR t q ht hq) (show b ≤ b + (b + b) by omega)) b2 (by omega) n g'
        refine ⟨_, by fail "tgd", ?_⟩
        nomatch h1, h2
        exact ⟨rfl, rfl⟩
      refine hK _ _ _ _ _ rfl (by rw [List.length_map, List.length_range]; exact Nat.lt_of_le_of_lt (show t ≤ 1000 by omega) (by decide)) ((congrArg (fun z => (List.range t).map (fun i => fqrow w (clr k p R i)) ++ [z]) hrow.symm).trans hsn.symm) (by fail "std") ?_
      clear hK K
      (with_reducible apply t_nil)
      exact ⟨rfl, _, _, _, _, _, rfl⟩
  · rintro σ g' ⟨rfl, a5, a7, a8, a9, a10, rfl⟩
    exact t_retT rfl ⟨rfl, rfl⟩

end My
end

section
set_option Elab.async false
set_option linter.all false
set_option maxRecDepth 100000
set_option maxHeartbeats 1600000
set_option pp.deepTerms false
set_option pp.deepTerms.threshold 9
open Ev PySem
namespace My
open LA RA
theorem first_pivot {m w k p : Nat} {R : Nat → Nat → Rat} (hm : m ≤ 1000) (hk : k ≤ m) (hp : p < w) (n : Nat) (g : G) : ∃ v, callN P (n + 1) 105 [.bor true ((List.range m).map fun i => fqrow w (R i)), .int (p : Int), .int (k : Int)] g = .ok v g ∧ ((v = .non ∧ ∀ i, k ≤ i → i < m → R i p = 0) ∨ ∃ i : Nat, v = .int (i : Int) ∧ k ≤ i ∧ i < m ∧ R i p ≠ 0) := by
  have hix : ∀ i, i < m → atI ((List.range m).map fun i => fqrow w (R i)) (i : Int) = some (fqrow w (R i)) := fun i hi => qat_rng _ hi
  have hiy : ∀ i q, q < w → atI ((List.range w).map fun q => fq (R i q)) (q : Int) = some (fq (R i q)) := fun i q hq => qat_rng _ hq
  have key : Tr (callN P (n + 1) 105 [.bor true ((List.range m).map fun i => fqrow w (R i)), .int (p : Int), .int (k : Int)] g) (fun v g1 => g1 = g ∧ ((v = .non ∧ ∀ i, k ≤ i → i < m → R i p = 0) ∨ ∃ i : Nat, v = .int (i : Int) ∧ k ≤ i ∧ i < m ∧ R i p ≠ 0)) := by
    (refine t_def f105 rfl rfl ?_; simp -implicitDefEqProofs only [e105, startA, List.map, List.length, List.replicate, List.cons_append, List.nil_append, Nat.reduceAdd, Nat.reduceSub, Nat.zero_add])
    refine s_forN (m - k) (k := fun i : Nat => .int ((k + i : Nat) : Int)) (g1 := g) (fun t σ g' => g' = g ∧ (∀ i, k ≤ i → i < k + t → R i p = 0) ∧ ∃ a3, σ = [some (.bor true ((List.range m).map fun i => fqrow w (R i))), some (.int (p : Int)), some (.int (k : Int)), a3]) (by fail "ev"; rw [List.length_map, List.length_range]; exact ⟨rfl, rfl⟩) ⟨rfl, fun i h1 h2 => by omega, _, rfl⟩ ?_ ?_
    · rintro t ht σ g' ⟨rfl, hz, a3, rfl⟩
      refine ⟨_, by fail "tgd", ?_⟩
      have h1 := hix (k + t) (by omega)
      have h2 := hiy (k + t) p hp
      refine s_if fun K hK => ?_
      fail "ev"
      by_cases h0 : R (k + t) p = 0
      · have hd : (R (k + t) p).num = 0 := by rw [h0]; rfl
        rw [decide_eq_true hd]
        show K (.bl false) g'
        refine hK _ _ _ (by fail "tru") ?_
        fail "br"
        clear hK K
        (with_reducible apply t_nil)
        (with_reducible apply t_nil)
        refine ⟨rfl, fun i h1 h2 => ?_, _, rfl⟩
        by_cases e : i = k + t
        · rw [e]; exact h0
        · exact hz i h1 (by omega)
      · have hd := num_ne h0
        rw [decide_eq_false hd]
        show K (.bl true) g'
        refine hK _ _ _ (by fail "tru") ?_
        fail "br"
        clear hK K
        (refine s_ret ?_; fail "ev")
        exact ⟨rfl, .inr ⟨k + t, rfl, by omega, by omega, h0⟩⟩
    · rintro σ g' ⟨rfl, hz, a3, rfl⟩
      (refine s_ret ?_; fail "ev")
      exact ⟨rfl, .inl ⟨rfl, fun i h1 h2 => hz i h1 (by omega)⟩⟩
  obtain ⟨v, g1, h, rfl, h2⟩ := key.get
  exact ⟨v, h, h2⟩

end My
end

section
set_option Elab.async false
set_option linter.all false
set_option maxRecDepth 100000
set_option maxHeartbeats 1600000
set_option pp.deepTerms false
set_option pp.deepTerms.threshold 9
open Ev PySem
namespace My
open LA RA
theorem swp_row {m k p : Nat} {f : Nat → AV} (hk : k < m) (hp : p < m) : (((List.range m).map f).set k (f p)).set p (f k) = (List.range m).map fun i => f (sw k p i) := by
  apply List.ext_getElem
  · simp
  · intro i h1 h2
    have hi : i < m := by simpa using h2
    rw [List.getElem_set, List.getElem_set]
    simp only [List.getElem_map, List.getElem_range]
    unfold sw
    by_cases e1 : p = i
    · subst e1
      rw [if_pos rfl]
      by_cases e2 : p = k
      · rw [if_pos e2, e2]
      · rw [if_neg e2, if_pos rfl]
    · rw [if_neg e1]
      by_cases e2 : k = i
      · subst e2
        rw [if_pos rfl, if_pos rfl]
      · rw [if_neg e2, if_neg (fun e => e2 e.symm), if_neg (fun e => e1 e.symm)]
/-- what the pivots tell, the rest 0 -/
def xs (c : Nat → Nat) (y : Nat → Rat) : Nat → Nat → Rat
  | 0 => fun _ => 0
  | t + 1 => fun q => if q = c t then y t else xs c y t q
theorem rep_one' (x : AV) : ∀ (n : Nat), (List.replicate n [x]).flatten = (List.range n).map fun _ => x
  | 0 => rfl
  | n + 1 => by rw [List.replicate_succ', List.flatten_append, rep_one' x n, List.range_succ, List.map_append]; rfl
theorem mul_one {g : G} {w : Nat} (hw : w ≤ 100) (x : AV) : binop g .Mult (.own [x]) (.int (w : Int)) = some (.own ((List.range w).map fun _ => x)) := by
  have h1 : ([x].length * (w : Int).toNat ≤ Ev.sizeLine) := le_sz (by simp; omega)
  have h2 : decide (-4611686018427387904 ≤ (w : Int)) = true := decide_eq_true (by omega)
  have h3 : decide ((w : Int) < 4611686018427387904) = true := decide_eq_true (by omega)
  simp only [binop, mulA, seqL, h2, h3, decide_eq_true h1, Bool.and_true, if_true]
  rw [Int.toNat_natCast, rep_one']
theorem xs_bq {b k : Nat} {c : Nat → Nat} {y : Nat → Rat} (h : ∀ j, j < k → bq b (y j)) (hb : 1 ≤ b) : ∀ q, bq b (xs c y k q) := by
  induction k with
  | zero => exact fun q => ⟨by show (0 : Nat) < 2 ^ b; exact Nat.two_pow_pos _, by show (1 : Nat) < 2 ^ b; exact Nat.one_lt_two_pow (by omega)⟩
  | succ k ih =>
    intro q
    show bq b (if q = c k then y k else xs c y k q)
    by_cases e : q = c k
    · rw [if_pos e]; exact h k (by omega)
    · rw [if_neg e]; exact ih (fun j hj => h j (by omega)) q
theorem xs_whole {X k : Nat} {c : Nat → Nat} {y : Nat → Rat} {Z : Int} (h : ∀ j, j < k → ∃ N : Int, (Z : Rat) * y j = (N : Rat) ∧ bt X N) : ∀ q, ∃ N : Int, (Z : Rat) * xs c y k q = (N : Rat) ∧ bt X N := by
  induction k with
  | zero => exact fun q => ⟨0, by show (Z : Rat) * 0 = ((0 : Int) : Rat); rw [show ((0 : Int) : Rat) = 0 from rfl]; grind, Nat.two_pow_pos _⟩
  | succ k ih =>
    intro q
    show ∃ N : Int, (Z : Rat) * (if q = c k then y k else xs c y k q) = (N : Rat) ∧ bt X N
    by_cases e : q = c k
    · rw [if_pos e]; exact h k (by omega)
    · rw [if_neg e]; exact ih (fun j hj => h j (by omega)) q
theorem xs_sum {w : Nat} {c : Nat → Nat} {y : Nat → Rat} (a : Nat → Rat) : ∀ (k : Nat), (∀ j, j < k → c j < w) → (∀ i j, i < j → j < k → c i < c j) → smq (fun q => a q * xs c y k q) w = smq (fun j => a (c j) * y j) k
  | 0, _, _ => by
    have : ∀ n, smq (fun q => a q * xs c y 0 q) n = 0 := fun n => by
      induction n with
      | zero => rfl
      | succ n ih => rw [smq, ih]; show (0 : Rat) + a n * 0 = 0; grind
    rw [this]; rfl
  | k + 1, h1, h2 => by
    rw [smq, ← xs_sum a k (fun j hj => h1 j (by omega)) (fun i j hi hj => h2 i j hi (by omega))]
    have hz : xs c y k (c k) = 0 := by
      have : ∀ t, t ≤ k → xs c y t (c k) = 0 := fun t => by
        induction t with
        | zero => intro _; rfl
        | succ t ih =>
          intro ht
          show (if c k = c t then y t else xs c y t (c k)) = 0
          have := h2 t k (by omega) (by omega)
          rw [if_neg (by omega)]
          exact ih (by omega)
      exact this k (Nat.le_refl _)
    have hgen : ∀ n, smq (fun q => a q * xs c y (k + 1) q) n = smq (fun q => a q * xs c y k q) n + (if c k < n then a (c k) * y k else 0) := fun n => by
      induction n with
      | zero => rw [smq, smq, if_neg (by omega)]; grind
      | succ n ih =>
        rw [smq, smq, ih]
        show _ + a n * (if n = c k then y k else xs c y k n) = _
        by_cases e : n = c k
        · subst e
          rw [if_pos rfl, if_neg (by omega), if_pos (by omega), hz]
          grind
        · rw [if_neg e]
          by_cases e2 : c k < n
          · rw [if_pos e2, if_pos (by omega)]; grind
          · rw [if_neg e2, if_neg (by omega)]; grind
    rw [hgen, if_pos (h1 k (by omega))]
/-- rows behind the pivots are nought in the columns done; what solves the rows at first solves them now -/
structure Ech (m w k t : Nat) (A : Nat → Nat → Int) (R : Nat → Nat → Rat) : Prop where
  z : ∀ i, k ≤ i → i < m → ∀ q, q < t → R i q = 0
  s : ∀ x : Nat → Rat, (∀ i, i < m → smq (fun q => (A i q : Rat) * x q) w = (A i w : Rat)) → ∀ i, i < m → smq (fun q => R i q * x q) w = R i w
theorem Ech.start (m w : Nat) (A : Nat → Nat → Int) : Ech m w 0 0 A (fun i q => (A i q : Rat)) := ⟨fun _ _ _ q hq => absurd hq (Nat.not_lt_zero q), fun _ h => h⟩
theorem Ech.none {m w k t : Nat} {A : Nat → Nat → Int} {R : Nat → Nat → Rat} (h : Ech m w k t A R) (h0 : ∀ i, k ≤ i → i < m → R i t = 0) : Ech m w k (t + 1) A R := ⟨fun i h1 h2 q hq => by
  by_cases e : q = t
  · rw [e]; exact h0 i h1 h2
  · exact h.z i h1 h2 q (by omega), h.s⟩
theorem sw_lt {m k p i : Nat} (hk : k ≤ p) (hp : p < m) (hi : i < m) : sw k p i < m ∧ (k ≤ i → k ≤ sw k p i) := by
  unfold sw
  split
  · exact ⟨hp, fun _ => hk⟩
  · split
    · exact ⟨by omega, fun _ => Nat.le_refl _⟩
    · exact ⟨hi, fun h => h⟩
theorem Ech.swap {m w k t p : Nat} {A : Nat → Nat → Int} {R : Nat → Nat → Rat} (h : Ech m w k t A R) (hk : k ≤ p) (hp : p < m) : Ech m w k t A (fun i => R (sw k p i)) :=
  ⟨fun i h1 h2 q hq => h.z _ ((sw_lt hk hp h2).2 h1) (sw_lt hk hp h2).1 q hq, fun x hx i hi => h.s x hx _ (sw_lt hk hp hi).1⟩
theorem Ech.clear {m w k t : Nat} {A : Nat → Nat → Int} {R : Nat → Nat → Rat} (h : Ech m w k t A R) (hk : k < m) (ht : t < w) (h0 : R k t ≠ 0) : Ech m w (k + 1) (t + 1) A (clr k t R) := by
  refine ⟨fun i h1 h2 q hq => ?_, fun x hx i hi => ?_⟩
  · unfold clr
    rw [if_neg (by omega)]
    by_cases e : q = t
    · subst e
      grind
    · rw [h.z i (by omega) h2 q (by omega), h.z k (by omega) hk q (by omega)]
      grind
  · have e1 := h.s x hx k hk
    have e2 := h.s x hx i hi
    unfold clr
    by_cases hik : i = k
    · subst hik
      have : smq (fun q => (if i = i then R i q / R i t else R i q - R i t * (R i q / R i t)) * x q) w = smq (fun q => (1 / R i t) * (R i q * x q)) w := smq_congr fun q _ => by rw [if_pos rfl]; grind
      rw [this, smq_mul, e1, if_pos rfl]
      grind
    · have : smq (fun q => (if i = k then R k q / R k t else R i q - R i t * (R k q / R k t)) * x q) w = smq (fun q => x q * (R i q - R k q * (R i t / R k t))) w := smq_congr fun q _ => by rw [if_neg hik]; grind
      rw [this, smq_lin, smq_congr fun q _ => Rat.mul_comm (x q) (R i q), smq_congr fun q _ => Rat.mul_comm (x q) (R k q), e1, e2, if_neg hik]
      grind
theorem Ech.end_ {m w k : Nat} {A : Nat → Nat → Int} {R : Nat → Nat → Rat} (h : Ech m w k w A R) (x : Nat → Rat) (hx : ∀ i, i < m → smq (fun q => (A i q : Rat) * x q) w = (A i w : Rat)) : ∀ i, k ≤ i → i < m → R i w = 0 := fun i h1 h2 => by
  rw [← h.s x hx i h2]
  have : smq (fun q => R i q * x q) w = smq (fun q => 0 * x q) w := smq_congr fun q hq => by rw [h.z i h1 h2 q hq]
  rw [this, smq_mul]
  grind
theorem solved {m w b : Nat} {A : Nat → Nat → Int} (hm1 : 1 ≤ m) (hm : m ≤ 15) (hw : w ≤ 100) (hA : ∀ i q, i < m → q ≤ w → bt b (A i q)) (hb : 16 * (b + 5) ≤ 1000) (n : Nat) (g : G) : ∃ v, callN P (n + 6) 101 [fqtab m (w + 1) fun i q => (A i q : Rat), .int (w : Int)] g = .ok v g ∧ ((v = .non ∧ ∀ x : Nat → Rat, ¬ ∀ i, i < m → smq (fun q => (A i q : Rat) * x q) w = (A i w : Rat)) ∨ ∃ x : Nat → Rat, v = .own ((List.range w).map fun q => fq (x q)) ∧ (∀ i, i < m → smq (fun q => (A i q : Rat) * x q) w = (A i w : Rat)) ∧ (∀ q, q < w → bq (16 * (b + 5)) (x q)) ∧ ∃ Z : Int, Z ≠ 0 ∧ ∀ q, q < w → ∃ N : Int, (Z : Rat) * x q = (N : Rat) ∧ bt (16 * (b + 5)) N) := by
  have key : Tr (callN P (n + 6) 101 [fqtab m (w + 1) fun i q => (A i q : Rat), .int (w : Int)] g) (fun v g1 => g1 = g ∧ ((v = .non ∧ ∀ x : Nat → Rat, ¬ ∀ i, i < m → smq (fun q => (A i q : Rat) * x q) w = (A i w : Rat)) ∨ ∃ x : Nat → Rat, v = .own ((List.range w).map fun q => fq (x q)) ∧ (∀ i, i < m → smq (fun q => (A i q : Rat) * x q) w = (A i w : Rat)) ∧ (∀ q, q < w → bq (16 * (b + 5)) (x q)) ∧ ∃ Z : Int, Z ≠ 0 ∧ ∀ q, q < w → ∃ N : Int, (Z : Rat) * x q = (N : Rat) ∧ bt (16 * (b + 5)) N)) := by
    (refine t_def f101 rfl rfl ?_; simp -implicitDefEqProofs only [e101, startA, List.map, List.length, List.replicate, List.cons_append, List.nil_append, Nat.reduceAdd, Nat.reduceSub, Nat.zero_add])
    refine s_parP fun K hK => ?_
    fail "ev"
    refine w_compT (List.range m) (kx := fun i => fqrow (w + 1) fun q => (A i q : Rat)) (g1 := g) (fun i => fqrow (w + 1) fun q => (A i q : Rat)) (by fail "ev"; exact ⟨rfl, rfl⟩) (le_sz (by rw [List.length_range]; omega)) ?_ ?_
    · intro i hi
      refine ⟨_, by fail "tgd", ?_⟩
      fail "ev"
      exact ⟨rfl, rfl⟩
    fail "ev"
    refine hK _ _ _ (by fail "tgd") ?_
    clear hK K
    refine s_forN w (k := fun i : Nat => .int (i : Int)) (g1 := g) (fun t σ g' => g' = g ∧ ∃ (k : Nat) (s c : Nat → Nat) (R : Nat → Nat → Rat) (a3 a4 a5 a6 : Option AV), GJ m w k A s c R ∧ (∀ j, j < k → c j < t) ∧ (∀ i j, i < j → j < k → c i < c j) ∧ Ech m w k t A R ∧ σ = [some (.own ((List.range m).map fun i => fqrow (w + 1) (R i))), some (.int (w : Int)), some (.own ((List.range k).map fun j => .int ((c j : Nat) : Int))), a3, a4, a5, a6]) (by fail "ev"; exact ⟨rfl, rfl⟩) ⟨rfl, 0, id, fun _ => 0, _, _, _, _, _, GJ.start m w A, fun j hj => by omega, fun i j hi hj => by omega, Ech.start m w A, rfl⟩ ?_ ?_
    · rintro t ht σ g' ⟨rfl, k, s, c, R, a3, a4, a5, a6, hG, hc1, hc2, hE, rfl⟩
      refine ⟨_, by fail "tgd", ?_⟩
      have hkm := hG.le
      have hbits : ∀ i q, i < m → q < w + 1 → bq 1000 (R i q) := fun i q hi hq => bq_mono (hG.bits hm hA hi (by omega)) hb
      obtain ⟨v, hv, hv2⟩ := first_pivot (R := R) (w := w + 1) (p := t) (show m ≤ 1000 by omega) hkm (by omega) (n + 4) g'
      have hlen : (((List.range k).map fun j => AV.int ((c j : Nat) : Int)).length : Int) = (k : Int) := by rw [List.length_map, List.length_range]
      rcases hv2 with ⟨rfl, hz⟩ | ⟨i, rfl, hi1, hi2, h0⟩
      · refine s_asgV fun K hK => ?_
        fail "ev"
        rw [List.length_map, List.length_range]
        nomatch hv
        refine hK _ _ _ _ (by fail "kpd") (by fail "std") ?_
        clear hK K
        (refine s_if fun K hK => ?_; fail "ev"; refine hK _ _ _ (by fail "tru") ?_; clear hK K)
        fail "br"
        (with_reducible apply t_nil)
        (with_reducible apply t_nil)
        exact ⟨rfl, k, s, c, R, _, _, _, _, hG, fun j hj => by have := hc1 j hj; omega, hc2, hE.none hz, rfl⟩
      · refine s_asgV fun K hK => ?_
        fail "ev"
        rw [List.length_map, List.length_range]
        nomatch hv
        refine hK _ _ _ _ (by fail "kpd") (by fail "std") ?_
        clear hK K
        (refine s_if fun K hK => ?_; fail "ev"; refine hK _ _ _ (by fail "tru") ?_; clear hK K)
        fail "br"
        have hkk : k < m := by omega
        have hki : ixN m (k : Int) = some k := qix_get hkk
        have hii : ixN m (i : Int) = some i := qix_get hi2
        have hai : atI ((List.range m).map fun i => fqrow (w + 1) (R i)) (i : Int) = some (fqrow (w + 1) (R i)) := qat_rng _ hi2
        have hak : atI ((List.range m).map fun i => fqrow (w + 1) (R i)) (k : Int) = some (fqrow (w + 1) (R k)) := qat_rng _ hkk
        have hsw := swp_row (f := fun i => fqrow (w + 1) (R i)) hkk hi2
        refine t_asg (v := .tup [fqrow (w + 1) (R i), fqrow (w + 1) (R k)]) (σ1 := [some (.own ((List.range m).map fun j => fqrow (w + 1) (R (sw k i j)))), some (.int (w : Int)), some (.own ((List.range k).map fun j => .int ((c j : Nat) : Int))), a3, some (.int (t : Int)), some (.int (i : Int)), a6]) (g1 := g') (g2 := g') (by simp_all! [hai, hak, List.length_map, List.length_range]) (by rw [← hsw]; simp_all! [hki, hii, List.length_set, List.length_map, List.length_range]) ?_
        have hG2 := hG.swap hi1 hi2
        have h02 : R (sw k i k) t ≠ 0 := by
          have : sw k i k = i := if_pos rfl
          rw [this]; exact h0
        have hbits2 : ∀ j q, j < m → q < w + 1 → bq 1000 (R (sw k i j) q) := fun j q hj hq => bq_mono (hG2.bits hm hA hj (by omega)) hb
        have hcl := cleared (R := fun j => R (sw k i j)) (show m ≤ 1000 by omega) (show w + 1 ≤ 1000 by omega) hkk (show t < w + 1 by omega) h02 (by omega) hbits2 n g'
        have hG3 := hG2.clear hkk (show t ≤ w by omega) h02
        have hE3 := (hE.swap hi1 hi2).clear hkk (show t < w by omega) h02
        refine t_frz rfl ?_
        rw [List.set_cons_zero]
        refine s_asgV fun K hK => ?_
        fail "ev"
        rw [List.length_map, List.length_range]
        nomatch hcl
        refine hK _ _ _ _ (by fail "kpd") (by fail "std") ?_
        clear hK K
        refine s_appO rfl fun K hK => ?_
        fail "ev"
        refine hK _ _ _ _ _ rfl (by rw [List.length_map, List.length_range]; exact Nat.lt_of_le_of_lt (show k ≤ 1000 by omega) (by decide)) rfl (by fail "std") ?_
        clear hK K
        (with_reducible apply t_nil)
        (with_reducible apply t_nil)
        have hpv : (List.range (k + 1)).map (fun j => AV.int (((fun j => if j = k then t else c j) j : Nat) : Int)) = (List.range k).map (fun j => AV.int ((c j : Nat) : Int)) ++ [.int (t : Int)] := by
          have e1 : (List.range k).map (fun j => AV.int (((fun j => if j = k then t else c j) j : Nat) : Int)) = (List.range k).map (fun j => AV.int ((c j : Nat) : Int)) := List.map_congr_left fun j hj => by
            have hj := List.mem_range.mp hj
            show AV.int (((if j = k then t else c j) : Nat) : Int) = _
            rw [if_neg (by omega)]
          rw [List.range_succ, List.map_append, e1]
          show _ ++ [AV.int (((if k = k then t else c k) : Nat) : Int)] = _
          rw [if_pos rfl]
        refine ⟨rfl, k + 1, _, fun j => if j = k then t else c j, _, a3, some (.int (t : Int)), some (.int (i : Int)), a6, hG3, fun j hj => ?_, fun a d had hd => ?_, hE3, ?_⟩
        · show (if j = k then t else c j) < t + 1
          by_cases e : j = k
          · rw [if_pos e]; omega
          · rw [if_neg e]
            have := hc1 j (by omega)
            omega
        · show (if a = k then t else c a) < (if d = k then t else c d)
          rw [if_neg (by omega)]
          by_cases e : d = k
          · rw [if_pos e]; exact hc1 a (by omega)
          · rw [if_neg e]; exact hc2 a d had (by omega)
        · rw [hpv]
    · rintro σ g' ⟨rfl, k, s, c, R, a3, a4, a5, a6, hG, hc1, hc2, hE, rfl⟩
      have hkm := hG.le
      have hcut := cuts_rng hkm (fun i => fqrow (w + 1) (R i))
      refine s_if fun K hK => ?_
      fail "ev"
      refine w_compT (List.range (m - k)) (kx := fun i => fqrow (w + 1) (R (k + i))) (g1 := g') (fun i => .bl (!decide ((R (k + i) w).num = 0))) (by
        fail "ev"
        rw [List.length_map, List.length_range]
        exact ⟨_, rfl, rfl, _, rfl, hcut, rfl⟩) (le_sz (by rw [List.length_range]; omega)) ?_ ?_
      · intro i hi
        have hi := List.mem_range.mp hi
        have h2 : atI ((List.range (w + 1)).map fun q => fq (R (k + i) q)) (w : Int) = some (fq (R (k + i) w)) := qat_rng _ (by omega)
        refine ⟨_, by fail "tgd", ?_⟩
        fail "ev"
        exact ⟨rfl, rfl⟩
      fail "ev"
      cases hz : (List.range (m - k)).any fun i => !decide ((R (k + i) w).num = 0) with
      | true =>
        refine hK _ _ _ (by fail "tru") ?_
        fail "br"
        clear hK K
        (refine s_ret ?_; fail "ev")
        refine ⟨rfl, .inl ⟨rfl, fun x hx => ?_⟩⟩
        obtain ⟨i, hi, hne⟩ := List.any_eq_true.mp hz
        have hi := List.mem_range.mp hi
        have e := hE.end_ x hx (k + i) (by omega) (by omega)
        rw [e] at hne
        cases hne
      | false =>
        refine hK _ _ _ (by fail "tru") ?_
        fail "br"
        clear hK K
        (with_reducible apply t_nil)
        have hzero : ∀ i, k ≤ i → i < m → R i w = 0 := fun i h1 h2 => by
          have := List.any_eq_false.mp hz (i - k) (List.mem_range.mpr (by omega))
          rw [show k + (i - k) = i by omega] at this
          by_cases e : R i w = 0
          · exact e
          · exact absurd (by rw [decide_eq_false (num_ne e)]; rfl) this

        have hmw := mul_one (g := g') hw (.tup [.int 0, .int 1])
        refine s_asgV fun K hK => ?_
        nomatch hmw
        refine hK _ _ _ _ (by fail "kpd") (by fail "std") ?_
        clear hK K
        refine t_frz rfl ?_
        rw [List.set_cons_succ, List.set_cons_succ, List.set_cons_zero]
        refine s_forN k (k := fun i : Nat => AV.tup [.int (i : Int), .int ((c i : Nat) : Int)]) (g1 := g') (fun t σ g2 => g2 = g' ∧ ∃ b4 b5, σ = [some (.own ((List.range m).map fun i => fqrow (w + 1) (R i))), some (.int (w : Int)), some (.lst ((List.range k).map fun j => .int ((c j : Nat) : Int))), a3, b4, b5, some (.own ((List.range w).map fun q => fq (xs c (fun j => R j w) t q)))]) (by fail "ev"; exact ⟨enum_rng _ _, rfl⟩) ⟨rfl, _, _, rfl⟩ ?_ ?_
        · rintro t ht σ g2 ⟨rfl, b4, b5, rfl⟩
          refine ⟨_, by fail "tgd", ?_⟩
          have hct := hc1 t ht
          have h1 : atI ((List.range m).map fun i => fqrow (w + 1) (R i)) (t : Int) = some (fqrow (w + 1) (R t)) := qat_rng _ (by omega)
          have h2 : atI ((List.range (w + 1)).map fun q => fq (R t q)) (w : Int) = some (fq (R t w)) := qat_rng _ (by omega)
          have hic : ixN w ((c t : Nat) : Int) = some (c t) := qix_get hct
          have hset : ((List.range w).map fun q => fq (xs c (fun j => R j w) t q)).set (c t) (fq (R t w)) = (List.range w).map fun q => fq (xs c (fun j => R j w) (t + 1) q) := by
            rw [set_rng]
            apply List.map_congr_left
            intro q _
            show (if q = c t then fq (R t w) else fq (xs c (fun j => R j w) t q)) = fq (if q = c t then R t w else xs c (fun j => R j w) t q)
            by_cases e : q = c t
            · rw [if_pos e, if_pos e]
            · rw [if_neg e, if_neg e]
          refine t_asg (v := fq (R t w)) (σ1 := [some (.own ((List.range m).map fun i => fqrow (w + 1) (R i))), some (.int (w : Int)), some (.lst ((List.range k).map fun j => .int ((c j : Nat) : Int))), a3, some (.int ((c t : Nat) : Int)), some (.int (t : Int)), some (.own ((List.range w).map fun q => fq (xs c (fun j => R j w) (t + 1) q)))]) (g1 := g2) (g2 := g2) (by simp_all! [h1, h2]) (by rw [← hset]; simp_all! [hic, List.length_map, List.length_range]) ?_
          (with_reducible apply t_nil)
          exact ⟨rfl, _, _, rfl⟩
        · rintro σ g2 ⟨rfl, b4, b5, rfl⟩
          refine t_retT rfl ⟨rfl, .inr ⟨xs c (fun j => R j w) k, rfl, fun i hi => ?_, fun q hq => ?_, ?_⟩⟩
          · obtain ⟨j, hj, rfl⟩ := hG.sj i hi
            rw [xs_sum (fun q => (A (s j) q : Rat)) k hc1 hc2]
            by_cases hjk : j < k
            · exact hG.top j hjk w (Nat.le_refl _)
            · have h1 := hG.bot j (by omega) hj w (Nat.le_refl _)
              rw [hzero j (by omega) hj] at h1
              grind
          · exact xs_bq (fun j hj => hG.bits hm hA (by omega) (Nat.le_refl _)) (by omega) q
          · obtain ⟨Z, hZ, hN⟩ := hG.whole hm hA
            exact ⟨Z, hZ, fun q _ => xs_whole hN q⟩
  obtain ⟨v, g1, h, rfl, h2⟩ := key.get
  exact ⟨v, h, h2⟩

end My
end

section
set_option Elab.async false
set_option linter.all false
set_option maxRecDepth 100000
set_option maxHeartbeats 1600000
set_option pp.deepTerms false
set_option pp.deepTerms.threshold 9
open Ev PySem
namespace My
open LA
/-- the greatest common divisor of a row -/
def gv (r : Vec) : Nat → Nat
  | 0 => 0
  | k + 1 => Int.gcd (gv r k : Int) (r k)
theorem gv_dvd {r : Vec} {j : Nat} : ∀ {k : Nat}, j < k → ((gv r k : Nat) : Int) ∣ r j
  | 0, h => by omega
  | k + 1, h => by
    by_cases e : j = k
    · subst e; exact Int.gcd_dvd_right ..
    · exact Int.dvd_trans (Int.gcd_dvd_left ..) (gv_dvd (by omega))
def gx (r : Vec) (n : Nat) : Nat := if gv r n < 1 then 1 else gv r n
theorem gx_pos (r : Vec) (n : Nat) : 0 < gx r n := by unfold gx; split <;> omega
theorem gx_dvd {r : Vec} {n j : Nat} (h : j < n) : ((gx r n : Nat) : Int) ∣ r j := by
  unfold gx
  split
  · exact Int.one_dvd _
  · exact gv_dvd h
/-- a row in lowest terms -/
def red (n : Nat) (r : Vec) : Vec := fun j => r j / ((gx r n : Nat) : Int)
theorem red_mul {r : Vec} {n j : Nat} (h : j < n) : ((gx r n : Nat) : Int) * red n r j = r j := Int.mul_ediv_cancel' (gx_dvd h)
theorem gx_le {r : Vec} {n j : Nat} (h : j < n) (h0 : r j ≠ 0) : gx r n ≤ (r j).natAbs := by
  have := Int.natAbs_dvd_natAbs.mpr (gx_dvd (r := r) h)
  rw [Int.natAbs_natCast] at this
  exact Nat.le_of_dvd (by omega) this
theorem reduced {m : Nat} {r : Vec} (hm : m ≤ 1000) (hb : ∀ j, j < m → bt 8000 (r j)) (hk : ∃ k, k < m ∧ r k ≠ 0) (n : Nat) (g : G) : callN P (n + 2) 68 [row m r] g = .ok (row m (red m r)) g := by
  refine t_eq f68 rfl rfl ?_
  simp -implicitDefEqProofs only [n68, startA, List.map, List.length, List.replicate, List.cons_append, List.nil_append, Nat.reduceAdd, Nat.reduceSub, Nat.zero_add]
  have hsz : m ≤ Ev.sizeLine := le_sz (by omega)
  obtain ⟨k, hk, hk0⟩ := hk
  have hgb : bt 8000 ((gx r m : Nat) : Int) := (hb k hk).le (by rw [Int.natAbs_natCast]; exact gx_le hk hk0)
  have hg0 := gx_pos r m
  have hdo : divOk ((gx r m : Nat) : Int) = true := divOk_bt hgb (by omega) (by omega)
  refine t_asg (v := .int 0) (σ1 := [some (row m r), some (.int 0), none]) (g1 := g) (g2 := g) rfl rfl ?_
  refine t_forN (n := m) (k := fun i => .int (r i)) (g1 := g) (fun t σ g' => g' = g ∧ ∃ a, σ = [some (row m r), some (.int ((gv r t : Nat) : Int)), a]) (by simp_all! []) ⟨rfl, _, rfl⟩ ?_ ?_
  · rintro t ht σ g' ⟨rfl, a, rfl⟩
    refine ⟨_, rfl, ?_⟩
    have hd := divisor n ((gv r t : Nat) : Int) (r t) (Nat.lt_of_lt_of_le (hb t ht) (Nat.pow_le_pow_right (by decide) (by decide))) g'
    exact t_asg (v := .int ((gv r (t + 1) : Nat) : Int)) (g1 := g') (by simp_all! [hd]; rfl) rfl (t_nil ⟨rfl, _, rfl⟩)
  · rintro σ g' ⟨rfl, a, rfl⟩
    have hgx : (if ((gv r m : Nat) : Int) < 1 then (1 : Int) else ((gv r m : Nat) : Int)) = ((gx r m : Nat) : Int) := by
      unfold gx
      by_cases h : gv r m < 1
      · rw [if_pos h, if_pos (by omega)]; rfl
      · rw [if_neg h, if_neg (by omega)]
    have fd : ∀ x : Int, x.fdiv ((gx r m : Nat) : Int) = x / ((gx r m : Nat) : Int) := fun x => Int.fdiv_eq_ediv_of_nonneg _ (by omega)
    refine t_ret (v := row m (red m r)) (g1 := g') ?_ rfl ⟨rfl, rfl⟩
    simp_all! []
    rw [compL_map]
    rotate_left
    · intro j hj
      have hj := List.mem_range.mp hj
      simp_all! [hgx, hdo, fd]
      rfl
    simp_all! [hsz]
    rfl
theorem reducedL {m : Nat} {r : Vec} (hm : m ≤ 1000) (hb : ∀ j, j < m → bt 8000 (r j)) (hk : ∃ k, k < m ∧ r k ≠ 0) (n : Nat) (g : G) : callN P (n + 2) 68 [.lst ((List.range m).map fun j => AV.int (r j))] g = .ok (row m (red m r)) g := by
  refine t_eq f68 rfl rfl ?_
  simp -implicitDefEqProofs only [n68, startA, List.map, List.length, List.replicate, List.cons_append, List.nil_append, Nat.reduceAdd, Nat.reduceSub, Nat.zero_add]
  have hsz : m ≤ Ev.sizeLine := le_sz (by omega)
  obtain ⟨k, hk, hk0⟩ := hk
  have hgb : bt 8000 ((gx r m : Nat) : Int) := (hb k hk).le (by rw [Int.natAbs_natCast]; exact gx_le hk hk0)
  have hg0 := gx_pos r m
  have hdo : divOk ((gx r m : Nat) : Int) = true := divOk_bt hgb (by omega) (by omega)
  refine t_asg (v := .int 0) (σ1 := [some (.lst ((List.range m).map fun j => AV.int (r j))), some (.int 0), none]) (g1 := g) (g2 := g) rfl rfl ?_
  refine t_forN (n := m) (k := fun i => .int (r i)) (g1 := g) (fun t σ g' => g' = g ∧ ∃ a, σ = [some (.lst ((List.range m).map fun j => AV.int (r j))), some (.int ((gv r t : Nat) : Int)), a]) (by simp_all! []) ⟨rfl, _, rfl⟩ ?_ ?_
  · rintro t ht σ g' ⟨rfl, a, rfl⟩
    refine ⟨_, rfl, ?_⟩
    have hd := divisor n ((gv r t : Nat) : Int) (r t) (Nat.lt_of_lt_of_le (hb t ht) (Nat.pow_le_pow_right (by decide) (by decide))) g'
    exact t_asg (v := .int ((gv r (t + 1) : Nat) : Int)) (g1 := g') (by simp_all! [hd]; rfl) rfl (t_nil ⟨rfl, _, rfl⟩)
  · rintro σ g' ⟨rfl, a, rfl⟩
    have hgx : (if ((gv r m : Nat) : Int) < 1 then (1 : Int) else ((gv r m : Nat) : Int)) = ((gx r m : Nat) : Int) := by
      unfold gx
      by_cases h : gv r m < 1
      · rw [if_pos h, if_pos (by omega)]; rfl
      · rw [if_neg h, if_neg (by omega)]
    have fd : ∀ x : Int, x.fdiv ((gx r m : Nat) : Int) = x / ((gx r m : Nat) : Int) := fun x => Int.fdiv_eq_ediv_of_nonneg _ (by omega)
    refine t_ret (v := row m (red m r)) (g1 := g') ?_ rfl ⟨rfl, rfl⟩
    simp_all! []
    rw [compL_map]
    rotate_left
    · intro j hj
      have hj := List.mem_range.mp hj
      simp_all! [hgx, hdo, fd]
      rfl
    simp_all! [hsz]
    rfl

end My
end

section
set_option Elab.async false
set_option linter.all false
set_option maxRecDepth 100000
set_option maxHeartbeats 1600000
set_option pp.deepTerms false
set_option pp.deepTerms.threshold 9
open Ev PySem
namespace My
open LA RA
/-- a common multiple of the bottoms that were seen -/
theorem whole_row {N b : Nat} {x : Nat → Rat} (hN : N ≤ 16) (hx : ∀ q, q < N → bq b (x q)) (hb : (N + 1) * b + 1 ≤ 7000) (h0 : ∃ q, q < N ∧ x q ≠ 0) (n : Nat) (g : G) : ∃ r : Vec, callN P (n + 3) 102 [.lst ((List.range N).map fun q => fq (x q))] g = .ok (row N (red N r)) g ∧ (∃ q, q < N ∧ r q ≠ 0) ∧ (∀ q, q < N → bt 7000 (r q)) ∧ ∃ c : Int, 0 < c ∧ ∀ q, q < N → ((r q : Int) : Rat) = (c : Rat) * x q := by
  have key : Tr (callN P (n + 3) 102 [.lst ((List.range N).map fun q => fq (x q))] g) (fun v g1 => g1 = g ∧ ∃ r : Vec, v = row N (red N r) ∧ (∃ q, q < N ∧ r q ≠ 0) ∧ (∀ q, q < N → bt 7000 (r q)) ∧ ∃ c : Int, 0 < c ∧ ∀ q, q < N → ((r q : Int) : Rat) = (c : Rat) * x q) := by
    (refine t_def f102 rfl rfl ?_; simp -implicitDefEqProofs only [e102, startA, List.map, List.length, List.replicate, List.cons_append, List.nil_append, Nat.reduceAdd, Nat.reduceSub, Nat.zero_add])
    (refine s_asgV fun K hK => ?_; fail "ev"; refine hK _ _ _ _ (by fail "kpd") (by fail "std") ?_; clear hK K)
    refine s_forN N (k := fun q : Nat => fq (x q)) (g1 := g) (fun t σ g' => g' = g ∧ ∃ (c : Int) (a2 a3 : Option AV), 0 < c ∧ bt (t * b + 1) c ∧ (∀ q, q < t → ((x q).den : Int) ∣ c) ∧ σ = [some (.lst ((List.range N).map fun q => fq (x q))), some (.int c), a2, a3]) (by fail "ev"; exact ⟨rfl, rfl⟩) ⟨rfl, 1, _, _, by decide, by show (1 : Nat) < 2 ^ (0 * b + 1); rw [Nat.zero_mul]; decide, fun q hq => by omega, rfl⟩ ?_ ?_
    · rintro t ht σ g' ⟨rfl, c, a2, a3, hc, hcb, hcd, rfl⟩
      refine ⟨_, by fail "tgd", ?_⟩
      have hd0 : (0 : Int) < ((x t).den : Int) := by have := (x t).den_nz; omega
      have hxb := hx t ht
      have hmulb : (t + 1) * b ≤ N * b := Nat.mul_le_mul_right _ (by omega)
      have hNb : (N + 1) * b = N * b + b := Nat.succ_mul ..
      have htb : (t + 1) * b = t * b + b := Nat.succ_mul ..
      have h1 := divisor (n + 1) c ((x t).den : Int) (Nat.lt_of_lt_of_le hxb.2 (Nat.pow_le_pow_right (by decide) (by omega))) g'
      have m1 := bqm hcb hxb.2 (by omega)
      obtain ⟨e, c1, d1, he, ee, ec, ed, _⟩ := low_parts (a := c) (b := ((x t).den : Int)) (by omega)
      rw [ee] at h1
      have hdo : divOk e = true := by
        refine divOk_bt (a := b) ?_ (by omega) (by omega)
        have := bt_dvd hxb.2 (by omega) (Int.gcd_dvd_right c ((x t).den : Int))
        rw [ee] at this
        exact this
      have hd1 : 0 < d1 := by
        rcases Int.lt_trichotomy d1 0 with h | h | h
        · have := Int.mul_neg_of_pos_of_neg he h; omega
        · rw [h, Int.mul_zero] at ed; omega
        · exact h
      have hq : (c * ((x t).den : Int)).fdiv e = c * d1 := by
        rw [Int.fdiv_eq_ediv_of_nonneg _ (by omega)]
        refine Int.ediv_eq_of_eq_mul_right (by omega) ?_
        rw [ed, ← Int.mul_assoc, Int.mul_comm c e, Int.mul_assoc]
      refine s_asgV fun K hK => ?_
      nomatch h1
      rw [hq]
      refine hK _ _ _ _ (by fail "kpd") (by fail "std") ?_
      clear hK K
      (with_reducible apply t_nil)
      refine ⟨rfl, c * d1, _, _, Int.mul_pos hc hd1, ?_, fun q hq => ?_, rfl⟩
      · refine ((hcb.mul (hxb.2.le (y := d1) ?_)).mono (by omega))
        rw [ed, Int.natAbs_mul]
        exact Nat.le_mul_of_pos_left _ (by omega)
      · by_cases e2 : q = t
        · subst e2
          exact ⟨c1, by rw [ec, ed, Int.mul_assoc, Int.mul_assoc, Int.mul_comm c1 d1]⟩
        · exact Int.dvd_trans (hcd q (by omega)) (Int.dvd_mul_right ..)
    · rintro σ g' ⟨rfl, c, a2, a3, hc, hcb, hcd, rfl⟩
      have hNb : (N + 1) * b = N * b + b := Nat.succ_mul ..
      obtain ⟨r, hr⟩ : ∃ r : Vec, ∀ q, r q = (x q).num * (c / ((x q).den : Int)) := ⟨_, fun q => rfl⟩
      have hdp : ∀ q, (0 : Int) < ((x q).den : Int) := fun q => by have := (x q).den_nz; omega
      have hcq : ∀ q, q < N → bt (N * b + 1) (c / ((x q).den : Int)) := fun q hq => hcb.le (by
        have h1 := Int.ediv_nonneg (a := c) (b := ((x q).den : Int)) (by omega) (by have := hdp q; omega)
        have h2 := Int.ediv_le_self ((x q).den : Int) (a := c) (by omega)
        omega)
      have hrb : ∀ q, q < N → bt 7000 (r q) := fun q hq => by
        rw [hr]
        exact ((hx q hq).1.mul (hcq q hq)).mono (by omega)
      have hrc : ∀ q, q < N → ((r q : Int) : Rat) = (c : Rat) * x q := fun q hq => by
        obtain ⟨z, hz⟩ := hcd q hq
        have e1 : c / ((x q).den : Int) = z := Int.ediv_eq_of_eq_mul_right (by have := hdp q; omega) hz
        have hn := num_den (x q)
        have hd := cast_ne (den_ne (x q))
        have hzc := congrArg (fun t : Int => (t : Rat)) hz
        simp only [Rat.intCast_mul] at hzc
        rw [hr, e1, Rat.intCast_mul, hzc]
        grind
      obtain ⟨q0, hq0, hx0⟩ := h0
      have hc0 := cast_ne (show c ≠ 0 by omega)
      have hk : ∃ q, q < N ∧ r q ≠ 0 := ⟨q0, hq0, fun e => by
        have := hrc q0 hq0
        rw [e] at this
        have h2 : ((0 : Int) : Rat) = 0 := rfl
        rw [h2] at this
        grind⟩
      have h2 := reducedL (m := N) (r := r) (by omega) (fun q hq => (hrb q hq).mono (by omega)) hk n g'
      refine s_ret ?_
      fail "ev"
      refine w_compT (List.range N) (kx := fun q => fq (x q)) (g1 := g') (fun q => .int (r q)) (by fail "ev"; exact ⟨rfl, rfl⟩) (le_sz (by rw [List.length_range]; omega)) ?_ ?_
      · intro q hq
        have hq := List.mem_range.mp hq
        have hdo : divOk ((x q).den : Int) = true := divOk_bt (hx q hq).2 (by have := hdp q; omega) (by omega)
        have hfd : c.fdiv ((x q).den : Int) = c / ((x q).den : Int) := Int.fdiv_eq_ediv_of_nonneg _ (by have := hdp q; omega)
        have m1 : mulOk (x q).num (c.fdiv ((x q).den : Int)) = true := by rw [hfd]; exact bqm (hx q hq).1 (hcq q hq) (by omega)
        refine ⟨_, by fail "tgd", ?_⟩
        fail "ev"
        rw [hfd, ← hr]
        exact ⟨rfl, rfl⟩
      nomatch h2
      exact ⟨rfl, r, rfl, hk, hrb, c, hc, hrc⟩
  obtain ⟨v, g1, h, rfl, r, rfl, h2⟩ := key.get
  exact ⟨r, h, h2⟩

end My
end

section
set_option Elab.async false
set_option linter.all false
set_option maxRecDepth 100000
set_option maxHeartbeats 1600000
set_option pp.deepTerms false
set_option pp.deepTerms.threshold 9
open Ev PySem
namespace My
open LA RA
/-- the equations of a middle -/
def eqA (m : Nat) (D : Nat → Nat → Int) (i q : Nat) : Int := if i < m then (if q < m then D i q else if q = m then -1 else 0) else (if q < m then 1 else if q = m then 0 else 1)
theorem smq_top (f : Nat → Rat) (n : Nat) : smq f (n + 1) = smq f n + f n := rfl
theorem addOO' (g : G) (xs ys : List AV) (h : xs.length + ys.length ≤ Ev.sizeLine) : binop g .Add (.own xs) (.own ys) = some (.own (xs ++ ys)) := by
  simp only [binop, addA, seqL, h, if_true]
theorem dvd_gv {d : Int} {r : Vec} : ∀ {m : Nat}, (∀ q, q < m → d ∣ r q) → d ∣ ((gv r m : Nat) : Int)
  | 0, _ => by show d ∣ ((0 : Nat) : Int); exact Int.dvd_zero d
  | m + 1, h => by
    show d ∣ ((Int.gcd ((gv r m : Nat) : Int) (r m) : Nat) : Int)
    exact Int.dvd_coe_gcd (dvd_gv fun q hq => h q (by omega)) (h m (by omega))
/-- a row in lowest terms is no longer than any whole multiple of the fractions it stands for -/
theorem red_tight {m X : Nat} {r : Vec} {x : Nat → Rat} {c Z : Int} (hc : 0 < c) (hZ : Z ≠ 0) (hr : ∀ q, q < m → ((r q : Int) : Rat) = (c : Rat) * x q) (hN : ∀ q, q < m → ∃ N : Int, (Z : Rat) * x q = (N : Rat) ∧ bt X N) (h0 : ∃ q, q < m ∧ r q ≠ 0) : ∀ q, q < m → bt X (red m r q) := by
  have hg := gx_pos r m
  have hzg : Z * ((gx r m : Nat) : Int) ≠ 0 := Int.mul_ne_zero hZ (by omega)
  have hcn : ∀ q, q < m → ∃ N : Int, c * N = Z * ((gx r m : Nat) : Int) * red m r q ∧ bt X N := fun q hq => by
    obtain ⟨N, h1, h2⟩ := hN q hq
    refine ⟨N, ?_, h2⟩
    rw [Int.mul_assoc, red_mul hq]
    refine Rat.intCast_inj.mp ?_
    rw [Rat.intCast_mul, Rat.intCast_mul, hr q hq, ← h1]
    grind
  generalize hzz : Z * ((gx r m : Nat) : Int) = zg at hzg hcn
  obtain ⟨e, c1, z1, he, _, ec, ez, hcop⟩ := low_parts (a := c) hzg
  have hc1 : 0 < c1 := by
    rcases Int.lt_trichotomy c1 0 with h | h | h
    · have := Int.mul_neg_of_pos_of_neg he h; omega
    · rw [h, Int.mul_zero] at ec; omega
    · exact h
  have hz1 : z1 ≠ 0 := fun h => hzg (by rw [ez, h, Int.mul_zero])
  have hcn1 : ∀ q, q < m → ∃ N : Int, c1 * N = z1 * red m r q ∧ bt X N := fun q hq => by
    obtain ⟨N, h1, h2⟩ := hcn q hq
    refine ⟨N, ?_, h2⟩
    rw [ec, ez, Int.mul_assoc, Int.mul_assoc] at h1
    exact Int.eq_of_mul_eq_mul_left (by omega) h1
  have hd : ∀ q, q < m → c1 ∣ red m r q := fun q hq => by
    obtain ⟨N, h1, _⟩ := hcn1 q hq
    have h2 : c1.natAbs ∣ z1.natAbs * (red m r q).natAbs := by
      rw [← Int.natAbs_mul, ← h1, Int.natAbs_mul]
      exact Nat.dvd_mul_right ..
    exact Int.natAbs_dvd_natAbs.mp (Nat.Coprime.dvd_of_dvd_mul_left hcop h2)
  have hdg : c1 * ((gx r m : Nat) : Int) ∣ ((gv r m : Nat) : Int) := dvd_gv fun q hq => by
    rw [← red_mul (r := r) hq, Int.mul_comm]
    exact Int.mul_dvd_mul (Int.dvd_refl _) (hd q hq)
  have hgv : gv r m = gx r m := by
    unfold gx
    by_cases h : gv r m < 1
    · exfalso
      obtain ⟨q, hq, hq0⟩ := h0
      have := gv_dvd (r := r) hq
      rw [show gv r m = 0 by omega] at this
      exact hq0 (Int.zero_dvd.mp this)
    · rw [if_neg h]
  rw [hgv] at hdg
  have hone : c1 = 1 := by
    have h1 := Int.le_of_dvd (by omega) hdg
    have h2 : c1 * ((gx r m : Nat) : Int) ≤ 1 * ((gx r m : Nat) : Int) := by rw [Int.one_mul]; exact h1
    have := Int.le_of_mul_le_mul_right h2 (by omega)
    omega
  intro q hq
  obtain ⟨N, h1, h2⟩ := hcn1 q hq
  rw [hone, Int.one_mul] at h1
  refine h2.le ?_
  rw [h1, Int.natAbs_mul]
  exact Nat.le_mul_of_pos_left _ (by omega)
theorem mid_plain {m : Nat} {D : Nat → Nat → Int} {x : Nat → Rat} {r : Vec} {c : Int} (h : ∀ i, i < m + 1 → smq (fun q => (eqA m D i q : Rat) * x q) (m + 1) = (eqA m D i (m + 1) : Rat)) (hc : 0 < c) (hr : ∀ q, q < m → ((r q : Int) : Rat) = (c : Rat) * x q) : sm (red m r) m ≠ 0 ∧ ∀ i, i < m → sm (fun q => D i q * red m r q) m = sm (fun q => D 0 q * red m r q) m := by
  have i0 : ((0 : Int) : Rat) = 0 := rfl
  have i1 : ((1 : Int) : Rat) = 1 := rfl
  have im : ((-1 : Int) : Rat) = -1 := rfl
  have hl : smq x m = 1 := by
    have := h m (by omega)
    rw [smq_top] at this
    have e1 : smq (fun q => (eqA m D m q : Rat) * x q) m = smq x m := smq_congr fun q hq => by
      unfold eqA
      rw [if_neg (by omega), if_pos hq, i1]
      grind
    have e2 : eqA m D m m = 0 := by unfold eqA; rw [if_neg (by omega), if_neg (by omega), if_pos rfl]
    have e3 : eqA m D m (m + 1) = 1 := by unfold eqA; rw [if_neg (by omega), if_neg (by omega), if_neg (by omega)]
    rw [e1, e2, e3, i0, i1] at this
    grind
  have hi : ∀ i, i < m → smq (fun q => (D i q : Rat) * x q) m = x m := fun i hi => by
    have := h i (by omega)
    rw [smq_top] at this
    have e1 : smq (fun q => (eqA m D i q : Rat) * x q) m = smq (fun q => (D i q : Rat) * x q) m := smq_congr fun q hq => by
      unfold eqA
      rw [if_pos hi, if_pos hq]
    have e2 : eqA m D i m = -1 := by unfold eqA; rw [if_pos hi, if_neg (by omega), if_pos rfl]
    have e3 : eqA m D i (m + 1) = 0 := by unfold eqA; rw [if_pos hi, if_neg (by omega), if_neg (by omega)]
    rw [e1, e2, e3, im, i0] at this
    grind
  have hs : sm r m = c := by
    refine Rat.intCast_inj.mp ?_
    rw [sm_cast, smq_congr hr, smq_mul, hl]
    grind
  have hd : ∀ i, i < m → ((sm (fun q => D i q * r q) m : Int) : Rat) = (c : Rat) * x m := fun i hi2 => by
    rw [sm_cast, ← hi i hi2, ← smq_mul]
    exact smq_congr fun q hq => by rw [Rat.intCast_mul, hr q hq]; grind
  have hg := gx_pos r m
  have h1 : ((gx r m : Nat) : Int) * sm (red m r) m = sm r m := by
    rw [← sm_mul]
    exact sm_congr fun q hq => red_mul hq
  have h2 : ∀ i, ((gx r m : Nat) : Int) * sm (fun q => D i q * red m r q) m = sm (fun q => D i q * r q) m := fun i => by
    rw [← sm_mul]
    exact sm_congr fun q hq => by rw [← red_mul (r := r) hq, ← Int.mul_assoc, ← Int.mul_assoc, Int.mul_comm _ (D i q)]
  refine ⟨fun e => ?_, fun i hi2 => ?_⟩
  · rw [e, Int.mul_zero, hs] at h1
    omega
  · have e : sm (fun q => D i q * r q) m = sm (fun q => D 0 q * r q) m := Rat.intCast_inj.mp ((hd i hi2).trans (hd 0 (by omega)).symm)
    rw [← h2, ← h2] at e
    exact Int.eq_of_mul_eq_mul_left (by omega) e
theorem mid_none {m : Nat} {D : Nat → Nat → Int} {w : Vec} (h0 : sm w m ≠ 0) (h : ∀ i, i < m → sm (fun q => D i q * w q) m = sm (fun q => D 0 q * w q) m) (hno : ∀ x : Nat → Rat, ¬ ∀ i, i < m + 1 → smq (fun q => (eqA m D i q : Rat) * x q) (m + 1) = (eqA m D i (m + 1) : Rat)) : False := by
  have hs : ((sm w m : Int) : Rat) ≠ 0 := by
    intro e
    exact h0 (by exact_mod_cast e)
  refine hno (fun q => if q < m then ((w q : Int) : Rat) / ((sm w m : Int) : Rat) else ((sm (fun q => D 0 q * w q) m : Int) : Rat) / ((sm w m : Int) : Rat)) fun i hi => ?_
  rw [smq_top, if_neg (Nat.lt_irrefl m)]
  by_cases him : i < m
  · have e1 : smq (fun q => (eqA m D i q : Rat) * (if q < m then ((w q : Int) : Rat) / ((sm w m : Int) : Rat) else ((sm (fun q => D 0 q * w q) m : Int) : Rat) / ((sm w m : Int) : Rat))) m = smq (fun q => (1 / ((sm w m : Int) : Rat)) * (((D i q * w q : Int)) : Rat)) m := smq_congr fun q hq => by
      have : eqA m D i q = D i q := by unfold eqA; rw [if_pos him, if_pos hq]
      rw [if_pos hq, this, Rat.intCast_mul]
      grind
    have e2 : eqA m D i m = -1 := by unfold eqA; rw [if_pos him, if_neg (by omega), if_pos rfl]
    have e3 : eqA m D i (m + 1) = 0 := by unfold eqA; rw [if_pos him, if_neg (by omega), if_neg (by omega)]
    rw [e1, e2, e3, smq_mul, smq_int (fun q => D i q * w q), h i him]
    have i0 : ((0 : Int) : Rat) = 0 := rfl
    have i1 : ((-1 : Int) : Rat) = -1 := rfl
    rw [i0, i1]
    grind
  · have him : i = m := by omega
    subst him
    have e1 : smq (fun q => (eqA i D i q : Rat) * (if q < i then ((w q : Int) : Rat) / ((sm w i : Int) : Rat) else ((sm (fun q => D 0 q * w q) i : Int) : Rat) / ((sm w i : Int) : Rat))) i = smq (fun q => (1 / ((sm w i : Int) : Rat)) * ((w q : Int) : Rat)) i := smq_congr fun q hq => by
      have : eqA i D i q = 1 := by unfold eqA; rw [if_neg (by omega), if_pos hq]
      have i1 : ((1 : Int) : Rat) = 1 := rfl
      rw [if_pos hq, this, i1]
      grind
    have e2 : eqA i D i i = 0 := by unfold eqA; rw [if_neg (by omega), if_neg (by omega), if_pos rfl]
    have e3 : eqA i D i (i + 1) = 1 := by unfold eqA; rw [if_neg (by omega), if_neg (by omega), if_neg (by omega)]
    rw [e1, e2, e3, smq_mul, smq_int w]
    have i0 : ((0 : Int) : Rat) = 0 := rfl
    have i1 : ((1 : Int) : Rat) = 1 := rfl
    rw [i0, i1]
    grind
theorem middle_of {m b : Nat} {D : Nat → Nat → Int} (T : Tb m D) (hD : ∀ i j, i < m → j < m → bt b (D i j)) (hb1 : 1 ≤ b) (hb : b ≤ 30) (n : Nat) (g : G) : ∃ v, callN P (n + 7) 98 [tab m D] g = .ok v g ∧ ((v = .non ∧ ∀ w : Vec, sm w m ≠ 0 → ¬ ∀ i, i < m → sm (fun q => D i q * w q) m = sm (fun q => D 0 q * w q) m) ∨ ∃ w : Vec, v = row m w ∧ sm w m ≠ 0 ∧ (∀ i, i < m → sm (fun q => D i q * w q) m = sm (fun q => D 0 q * w q) m) ∧ ∀ q, q < m → bt (16 * (b + 5)) (w q)) := by
  have hm1 := T.lo
  have hm8 := T.hi
  have hA : ∀ i q, i < m + 1 → q ≤ m + 1 → bt b (eqA m D i q) := fun i q hi hq => by
    have h2 : (2 : Nat) ^ 1 ≤ 2 ^ b := Nat.pow_le_pow_right (by decide) hb1
    have one : bt b 1 := by show (1 : Nat) < 2 ^ b; omega
    have mone : bt b (-1) := by show (1 : Nat) < 2 ^ b; omega
    have zero : bt b 0 := by show (0 : Nat) < 2 ^ b; omega
    unfold eqA
    by_cases h1 : i < m
    · rw [if_pos h1]
      by_cases h2 : q < m
      · rw [if_pos h2]; exact hD i q h1 h2
      · rw [if_neg h2]
        by_cases h3 : q = m
        · rw [if_pos h3]; exact mone
        · rw [if_neg h3]; exact zero
    · rw [if_neg h1]
      by_cases h2 : q < m
      · rw [if_pos h2]; exact one
      · rw [if_neg h2]
        by_cases h3 : q = m
        · rw [if_pos h3]; exact zero
        · rw [if_neg h3]; exact one
  obtain ⟨v, hv, hv2⟩ := solved (m := m + 1) (w := m + 1) (A := eqA m D) (by omega) (by omega) (by omega) hA (by omega) n g
  have hrow : ∀ i, i < m → ((List.range m).map fun q => AV.tup [.int (D i q), .int 1]) ++ [AV.tup [.int (-1), .int 1], .tup [.int 0, .int 1]] = (List.range (m + 1 + 1)).map fun q => fq (eqA m D i q : Rat) := fun i hi => by
    rw [List.range_succ, List.map_append, List.range_succ, List.map_append, List.append_assoc]
    have e1 : (List.range m).map (fun q => fq (eqA m D i q : Rat)) = (List.range m).map fun q => AV.tup [.int (D i q), .int 1] := List.map_congr_left fun q hq => by
      have hq := List.mem_range.mp hq
      have : eqA m D i q = D i q := by unfold eqA; rw [if_pos hi, if_pos hq]
      rw [this]; rfl
    have e2 : eqA m D i m = -1 := by unfold eqA; rw [if_pos hi, if_neg (by omega), if_pos rfl]
    have e3 : eqA m D i (m + 1) = 0 := by unfold eqA; rw [if_pos hi, if_neg (by omega), if_neg (by omega)]
    rw [e1]
    show _ = _ ++ ([fq (eqA m D i m : Rat)] ++ [fq (eqA m D i (m + 1) : Rat)])
    rw [e2, e3]; rfl
  have hlast : ((List.range m).map fun _ => AV.tup [.int 1, .int 1]) ++ [AV.tup [.int 0, .int 1], .tup [.int 1, .int 1]] = (List.range (m + 1 + 1)).map fun q => fq (eqA m D m q : Rat) := by
    rw [List.range_succ, List.map_append, List.range_succ, List.map_append, List.append_assoc]
    have e1 : (List.range m).map (fun q => fq (eqA m D m q : Rat)) = (List.range m).map fun q => AV.tup [.int 1, .int 1] := List.map_congr_left fun q hq => by
      have hq := List.mem_range.mp hq
      have : eqA m D m q = 1 := by unfold eqA; rw [if_neg (by omega), if_pos hq]
      rw [this]; rfl
    have e2 : eqA m D m m = 0 := by unfold eqA; rw [if_neg (by omega), if_neg (by omega), if_pos rfl]
    have e3 : eqA m D m (m + 1) = 1 := by unfold eqA; rw [if_neg (by omega), if_neg (by omega), if_neg (by omega)]
    rw [e1]
    show _ = _ ++ ([fq (eqA m D m m : Rat)] ++ [fq (eqA m D m (m + 1) : Rat)])
    rw [e2, e3]; rfl
  have htab : ((List.range m).map fun i => fqrow (m + 1 + 1) fun q => (eqA m D i q : Rat)) ++ [fqrow (m + 1 + 1) fun q => (eqA m D m q : Rat)] = (List.range (m + 1)).map fun i => fqrow (m + 1 + 1) fun q => (eqA m D i q : Rat) := by
    rw [List.range_succ, List.map_append]; rfl
  have key : Tr (callN P (n + 7) 98 [tab m D] g) (fun v g1 => g1 = g ∧ ((v = .non ∧ ∀ w : Vec, sm w m ≠ 0 → ¬ ∀ i, i < m → sm (fun q => D i q * w q) m = sm (fun q => D 0 q * w q) m) ∨ ∃ w : Vec, v = row m w ∧ sm w m ≠ 0 ∧ (∀ i, i < m → sm (fun q => D i q * w q) m = sm (fun q => D 0 q * w q) m) ∧ ∀ q, q < m → bt (16 * (b + 5)) (w q))) := by
    have hmo := mul_one (g := g) (w := m) (by omega) (.tup [.int 1, .int 1])
    (refine t_def f98 rfl rfl ?_; simp -implicitDefEqProofs only [e98, startA, List.map, List.length, List.replicate, List.cons_append, List.nil_append, Nat.reduceAdd, Nat.reduceSub, Nat.zero_add])
    refine s_asgV fun K hK => ?_
    fail "ev"
    refine w_compT (List.range m) (kx := fun i => row m (D i)) (g1 := g) (fun i => fqrow (m + 1 + 1) fun q => (eqA m D i q : Rat)) (by fail "ev"; exact ⟨rfl, rfl⟩) (le_sz (by rw [List.length_range]; omega)) ?_ ?_
    · intro i hi
      have hi := List.mem_range.mp hi
      refine ⟨_, by fail "tgd", ?_⟩
      fail "ev"
      refine w_compT (List.range m) (kx := fun q => AV.int (D i q)) (g1 := g) (fun q => AV.tup [.int (D i q), .int 1]) (by fail "ev"; exact ⟨rfl, rfl⟩) (le_sz (by rw [List.length_range]; omega)) ?_ ?_
      · intro q hq
        refine ⟨_, by fail "tgd", ?_⟩
        fail "ev"
        exact ⟨rfl, rfl⟩
      fail "ev"
      refine ⟨_, addOO' _ _ _ (le_sz (by rw [List.length_map, List.length_range]; simp; omega)), rfl, ?_⟩
      rw [hrow i hi]
      rfl
    refine hK _ _ _ _ (by fail "kpd") (by fail "std") ?_
    clear hK K
    refine s_appO rfl fun K hK => ?_
    fail "ev"
    rw [List.length_map, List.length_range]
    nomatch hmo
    refine w_pbin (addOO' _ _ _ (le_sz (by rw [List.length_map, List.length_range]; simp; omega))) ?_
    rw [hlast]
    refine hK _ _ _ _ _ rfl (by rw [List.length_map, List.length_range]; exact Nat.lt_of_le_of_lt (show m ≤ 1000 by omega) (by decide)) htab (by fail "std") ?_
    clear hK K
    refine t_frz rfl ?_
    rw [List.set_cons_succ, List.set_cons_zero]
    refine s_asgV fun K hK => ?_
    fail "ev"
    rw [List.length_map, List.length_range]
    have hv : callN P (n + 6) 101 [fqtab (m + 1) (m + 1 + 1) fun i q => (eqA m D i q : Rat), .int ((m : Int) + 1)] g = .ok v g := hv
    rcases hv2 with ⟨rfl, hno⟩ | ⟨x, rfl, hx1, hx2, Z, hZ, hZx⟩
    · nomatch hv
      refine hK _ _ _ _ (by fail "kpd") (by fail "std") ?_
      clear hK K
      (refine s_ret ?_; fail "ev")
      exact ⟨rfl, .inl ⟨rfl, fun w hw0 hw => mid_none hw0 hw hno⟩⟩
    · nomatch hv
      refine hK _ _ _ _ (by fail "kpd") (by fail "std") ?_
      clear hK K
      have hcut : cut ((List.range (m + 1)).map fun q => fq (x q)) none (some (-1)) = (List.range m).map fun q => fq (x q) := by
        have e : (sIx ((List.range (m + 1)).map fun q => fq (x q)).length ((List.range (m + 1)).map fun q => fq (x q)).length (some (-1))) = m := by
          rw [List.length_map, List.length_range]
          show (if (-1 : Int) < 0 then ((-1 : Int) + ((m + 1 : Nat) : Int)).toNat else min (-1 : Int).toNat (m + 1)) = m
          rw [if_pos (by decide)]
          omega
        unfold cut
        rw [e]
        show (((List.range (m + 1)).map fun q => fq (x q)).drop 0).take (m - 0) = _
        rw [List.drop_zero, Nat.sub_zero, List.range_succ, List.map_append, List.take_left' (by simp)]
      have hx0 : ∃ q, q < m ∧ x q ≠ 0 := by
        apply Classical.byContradiction
        intro hno
        have hz : ∀ q, q < m → x q = 0 := fun q hq => Classical.byContradiction fun e => hno ⟨q, hq, e⟩
        have hl := hx1 m (by omega)
        rw [smq_top] at hl
        have e1 : smq (fun q => (eqA m D m q : Rat) * x q) m = smq (fun q => 0 * x q) m := smq_congr fun q hq => by rw [hz q hq]; grind
        have e2 : eqA m D m m = 0 := by unfold eqA; rw [if_neg (by omega), if_neg (by omega), if_pos rfl]
        have e3 : eqA m D m (m + 1) = 1 := by unfold eqA; rw [if_neg (by omega), if_neg (by omega), if_neg (by omega)]
        have i0 : ((0 : Int) : Rat) = 0 := rfl
        have i1 : ((1 : Int) : Rat) = 1 := rfl
        rw [e1, e2, e3, i0, i1, smq_mul] at hl
        grind
      have hmb : (m + 1) * (16 * (b + 5)) ≤ 9 * (16 * (b + 5)) := Nat.mul_le_mul_right _ (by omega)
      obtain ⟨r, hr1, hr2, hr3, c, hc, hr4⟩ := whole_row (N := m) (x := x) (by omega) (fun q hq => hx2 q (by omega)) (by omega) hx0 (n + 3) g
      obtain ⟨p1, p2⟩ := mid_plain hx1 hc hr4
      refine s_ret ?_
      fail "ev"
      refine ⟨.own ((List.range m).map fun q => fq (x q)), by show some (AV.own (cut _ none (some (-1)))) = _; rw [hcut], ?_⟩
      nomatch hr1
      exact ⟨rfl, .inr ⟨red m r, rfl, p1, p2, red_tight hc hZ hr4 (fun q hq => hZx q (by omega)) hr2⟩⟩
  obtain ⟨v, g1, h, rfl, h2⟩ := key.get
  exact ⟨v, h, h2⟩

end My
end

section
set_option Elab.async false
set_option linter.all false
set_option maxRecDepth 100000
set_option maxHeartbeats 1600000
set_option pp.deepTerms false
set_option pp.deepTerms.threshold 9
open Ev PySem
namespace My
open LA
/-- a row with the first thing at nought -/
def ext (f : Vec) : Vec := fun i => if i = 0 then 0 else f (i - 1)
theorem ext_row (m : Nat) (f : Vec) : AV.tup (.int 0 :: (List.range m).map fun j => .int (f j)) = row (m + 1) (ext f) := by
  rw [row, List.range_succ_eq_map, List.map_cons, List.map_map]
  rfl
def topv (m : Nat) (s : Nat × Vec × Int) : Int := ((gx s.2.1 m : Nat) : Int) * ((gx s.2.1 m : Nat) : Int) / (Int.gcd (((gx s.2.1 m : Nat) : Int) * ((gx s.2.1 m : Nat) : Int)) (2 * s.2.2 * s.2.1 s.1) : Int)
def botv (m : Nat) (s : Nat × Vec × Int) : Int := (2 * s.2.2 * s.2.1 s.1) / (Int.gcd (((gx s.2.1 m : Nat) : Int) * ((gx s.2.1 m : Nat) : Int)) (2 * s.2.2 * s.2.1 s.1) : Int)
abbrev lay (m : Nat) (s : Nat × Vec × Int) : AV := .tup [.int (topv m s), .int (botv m s), row (m + 1) (ext (red m s.2.1))]
theorem bt_two : bt 2 2 := by show (2 : Nat) < 4; decide
theorem At.len8 {n : Nat} {R0 R : Mat} {l : List (Nat × Vec × Int)} {c : Int} (h : At n R0 l R c) (hn : n ≤ 8) : l.length ≤ 8 := by
  have := h.len
  omega
theorem layers_m {m : Nat} {R0 R : Mat} {l : List (Nat × Vec × Int)} {c : Int} (hA : At m R0 l R c) (hm : m ≤ 8) (n : Nat) (g : G) : callN P (n + 3) 74 [split m l R] g = .ok (.tup (l.map (lay m))) g := by
  refine t_eq f74 rfl rfl ?_
  simp -implicitDefEqProofs only [n74, startA, List.map, List.length, List.replicate, List.cons_append, List.nil_append, Nat.reduceAdd, Nat.reduceSub, Nat.zero_add]
  have h1 : (split m l R).look = split m l R := rfl
  refine t_asg (v := .own []) (g1 := g) (g2 := g) rfl rfl ?_
  refine t_forP l (k := stp m) (g1 := g) (fun a σ g' => g' = g ∧ ∃ a2 a3 a4 a5 a6 a7 a8, σ = [some (split m l R), some (.own (a.map (lay m))), a2, a3, a4, a5, a6, a7, a8]) (by simp_all! [h1, attr_split4]) ⟨rfl, _, _, _, _, _, _, _, rfl⟩ ?_ ?_
  · rintro a s b hl σ g' ⟨rfl, a2, a3, a4, a5, a6, a7, a8, rfl⟩
    obtain ⟨k, r, c⟩ := s
    obtain ⟨hk, hp, hb, hc, hcb⟩ := hA.ms (k, r, c) (by rw [hl]; simp)
    have hk : k < m := hk
    have hp : 0 < r k := hp
    have hb : ∀ j, j < m → bt 2048 (r j) := hb
    have hc : 0 < c := hc
    have hcb : bt 2048 c := hcb
    refine ⟨_, rfl, ?_⟩
    have hr := reduced (m := m) (r := r) (by omega) (fun j hj => (hb j hj).mono (by omega)) ⟨k, hk, by omega⟩ n g'
    refine t_asg (v := row m (red m r)) (g1 := g') (g2 := g') (by simp_all! [hr]) rfl ?_
    have hg0 := gx_pos r m
    have hmul := red_mul (r := r) (n := m) hk
    have hrk : 0 < red m r k := by
      have : 0 < ((gx r m : Nat) : Int) * red m r k := by rw [hmul]; exact hp
      exact Int.pos_of_mul_pos_right this (by omega) |> fun h => h
    have hrb : bt 2048 (red m r k) := bt_ediv (hb k hk)
    have hdo : divOk (red m r k) = true := divOk_bt hrb (by omega) (by omega)
    have hfd : (r k).fdiv (red m r k) = ((gx r m : Nat) : Int) := by
      rw [Int.fdiv_eq_ediv_of_nonneg _ (by omega), ← hmul, Int.mul_ediv_cancel _ (by omega)]
    refine t_asg (v := .int ((gx r m : Nat) : Int)) (g1 := g') (g2 := g') (by simp_all! [hk, hdo, hfd]) rfl ?_
    have hgb : bt 2048 ((gx r m : Nat) : Int) := (hb k hk).le (by rw [Int.natAbs_natCast]; exact gx_le hk (by omega))
    have hq : 0 < 2 * c * r k := Int.mul_pos (by omega) hp
    have hqb : bt (2 + 2048 + 2048) (2 * c * r k) := (bt_two.mul hcb).mul (hb k hk)
    have hlo := lowest (a := ((gx r m : Nat) : Int) * ((gx r m : Nat) : Int)) (hqb.mono (by omega)) hq n g'
    have m1 : mulOk ((gx r m : Nat) : Int) ((gx r m : Nat) : Int) = true := mulOk_bt hgb hgb (by omega)
    have m2 : mulOk 2 c = true := mulOk_l (by omega) (by omega)
    have m3 : mulOk (2 * c) (r k) = true := mulOk_bt (bt_two.mul hcb) (hb k hk) (by omega)
    refine t_asg (v := .tup [.int (topv m (k, r, c)), .int (botv m (k, r, c))]) (g1 := g') (g2 := g') (by simp_all! [hk, m1, m2, m3, hlo]; rfl) rfl ?_
    have h8 := hA.len8 hm
    have hal : a.length ≤ 8 := by rw [hl] at h8; simp only [List.length_append, List.length_cons] at h8; omega
    refine t_appO (v := lay m (k, r, c)) (w := lay m (k, r, c)) (xs := a.map (lay m)) (g1 := g') rfl ?_ rfl ?_ (t_nil ⟨rfl, _, _, _, _, _, _, _, by rw [List.map_append]; rfl⟩)
    · have hkm : ((List.range m).map fun j => AV.int (red m r j)).mapM AV.keep = some ((List.range m).map fun j => AV.int (red m r j)) := keep_map fun _ _ => rfl
      have hsz : m + 1 ≤ Ev.sizeLine := le_sz (by omega)
      simp_all! [hkm, List.length_cons, hsz]
      rw [ext_row]
    · rw [List.length_map]
      have : (8 : Nat) < Ev.sizeLine := by decide
      omega
  · rintro σ g' ⟨rfl, a2, a3, a4, a5, a6, a7, a8, rfl⟩
    exact t_ret (v := .tup (l.map (lay m))) (g1 := g') (by simp_all! []) rfl ⟨rfl, rfl⟩
theorem mth_split2 {m : Nat} {l : List (Nat × Vec × Int)} {R : Mat} (g : G) : mthA P (split m l R) 2 g = some 74 := by
  unfold mthA fldsA split
  simp only [c1]
  rfl
/-- the split of a table, and its layers -/
theorem layers_only {m : Nat} {D : Nat → Nat → Int} (T : Tb (m + 1) D) (n : Nat) : ∃ (l : List (Nat × Vec × Int)) (R : Mat) (c : Int), At m (form D) l R c ∧ (∀ i, i < m → R i i ≤ 0) ∧
    ∀ g, callN P (n + 5) 56 [tab (m + 1) D] g = .ok (if zerB m R then .tup (l.map (lay m)) else .non) g := by
  obtain ⟨l, R, c, h1, h2, h3⟩ := make_split T n
  have hA := h1
  refine ⟨l, R, c, h1, h2, fun g => ?_⟩
  · have hm := T.hi
    refine t_eq f56 rfl rfl ?_
    show TrS (evSs P (callN P (n + 4)) e56.body [some (tab (m + 1) D), none] g) _ _
    refine t_asg (v := split m l R) (σ1 := [some (tab (m + 1) D), some (split m l R)]) (g1 := g) (g2 := g) (by simp_all! [pures_tab, h3]) rfl ?_
    have h1 : (split m l R).look = split m l R := rfl
    have h4 := is_whole (l := l) (R := R) (m := m) (by omega) (n + 3) g
    have h5 := layers_m hA (by omega) (n + 1) g
    by_cases hz : zerB m R = true
    · rw [if_pos hz]
      rw [hz] at h4
      exact t_ret (v := .tup (l.map (lay m))) (g1 := g) (by simp_all! [h1, mth_split, mth_split2, h4, h5]) rfl ⟨rfl, rfl⟩
    · rw [if_neg hz]
      have hz : zerB m R = false := by simpa using hz
      rw [hz] at h4
      exact t_ret (v := .non) (g1 := g) (by simp_all! [h1, mth_split, h4]) rfl ⟨rfl, rfl⟩
/-- the split of a table, and what is told by it -/
theorem layers_of {m : Nat} {D : Nat → Nat → Int} (T : Tb (m + 1) D) (n : Nat) : ∃ (l : List (Nat × Vec × Int)) (R : Mat) (c : Int), At m (form D) l R c ∧ (∀ i, i < m → R i i ≤ 0) ∧
    (∀ g, callN P (n + 5) 56 [tab (m + 1) D] g = .ok (if zerB m R then .tup (l.map (lay m)) else .non) g) ∧ ∀ g, callN P (n + 5) 59 [tab (m + 1) D] g = .ok (if zerB m R then .int (l.length : Int) else .non) g := by
  obtain ⟨l, R, c, h1, h2, h3⟩ := make_split T n
  have hA := h1
  refine ⟨l, R, c, h1, h2, fun g => ?_, fun g => ?_⟩
  · have hm := T.hi
    refine t_eq f56 rfl rfl ?_
    show TrS (evSs P (callN P (n + 4)) e56.body [some (tab (m + 1) D), none] g) _ _
    refine t_asg (v := split m l R) (σ1 := [some (tab (m + 1) D), some (split m l R)]) (g1 := g) (g2 := g) (by simp_all! [pures_tab, h3]) rfl ?_
    have h1 : (split m l R).look = split m l R := rfl
    have h4 := is_whole (l := l) (R := R) (m := m) (by omega) (n + 3) g
    have h5 := layers_m hA (by omega) (n + 1) g
    by_cases hz : zerB m R = true
    · rw [if_pos hz]
      rw [hz] at h4
      exact t_ret (v := .tup (l.map (lay m))) (g1 := g) (by simp_all! [h1, mth_split, mth_split2, h4, h5]) rfl ⟨rfl, rfl⟩
    · rw [if_neg hz]
      have hz : zerB m R = false := by simpa using hz
      rw [hz] at h4
      exact t_ret (v := .non) (g1 := g) (by simp_all! [h1, mth_split, h4]) rfl ⟨rfl, rfl⟩
  · have hm := T.hi
    refine t_eq f59 rfl rfl ?_
    show TrS (evSs P (callN P (n + 4)) e59.body [some (tab (m + 1) D), none] g) _ _
    refine t_asg (v := split m l R) (σ1 := [some (tab (m + 1) D), some (split m l R)]) (g1 := g) (g2 := g) (by simp_all! [pures_tab, h3]) rfl ?_
    have h1 : (split m l R).look = split m l R := rfl
    have h4 := is_whole (l := l) (R := R) (m := m) (by omega) (n + 3) g
    by_cases hz : zerB m R = true
    · rw [if_pos hz]
      rw [hz] at h4
      exact t_ret (v := .int (l.length : Int)) (g1 := g) (by simp_all! [h1, mth_split, h4, attr_split4]) rfl ⟨rfl, rfl⟩
    · rw [if_neg hz]
      have hz : zerB m R = false := by simpa using hz
      rw [hz] at h4
      exact t_ret (v := .non) (g1 := g) (by simp_all! [h1, mth_split, h4]) rfl ⟨rfl, rfl⟩

end My
end

section
set_option Elab.async false
set_option linter.all false
set_option maxRecDepth 100000
set_option maxHeartbeats 1600000
set_option pp.deepTerms false
set_option pp.deepTerms.threshold 9
open Ev PySem
namespace My
open LA
def rW (b t : Nat) : Nat := 2 ^ t * (b + 1)
theorem rW_succ (b t : Nat) : rW b (t + 1) = 2 * rW b t := by unfold rW; rw [Nat.pow_succ, Nat.mul_comm (2 ^ t) 2, Nat.mul_assoc]
theorem rW_pos (b t : Nat) : 1 ≤ rW b t := Nat.mul_pos (Nat.two_pow_pos t) (by omega)
theorem bt_dvR {a : Nat} {x y g : Int} (h : bt a y) (hg : 0 < g) (e : x * g = y) : bt a x := h.le (by
  rw [← e, Int.natAbs_mul]
  exact Nat.le_mul_of_pos_right _ (by omega))
theorem Run.tight {n b : Nat} {R0 R : Mat} {c : Int} {l : List (Nat × Vec × Int)} (hb : ∀ i j, i < n → j < n → bt b (R0 i j)) (r : Run n R0 1 l R c) : (∀ i j, i < n → j < n → bt (rW b l.length - 1) (R i j)) ∧ bt (rW b l.length) c ∧ 0 < c ∧
    ∀ s ∈ l, s.1 < n ∧ 0 < s.2.1 s.1 ∧ (∀ j, j < n → bt (rW b l.length) (s.2.1 j)) ∧ 0 < s.2.2 ∧ bt (rW b l.length) s.2.2 := by
  induction r with
  | nil =>
    refine ⟨fun i j hi hj => (hb i j hi hj).mono ?_, ?_, by decide, fun s hs => by cases hs⟩
    · show b ≤ 2 ^ 0 * (b + 1) - 1; omega
    · show 1 < 2 ^ (2 ^ 0 * (b + 1)); exact Nat.one_lt_two_pow (by omega)
  | snoc r p s ih =>
    rename_i l R R' c c' k
    obtain ⟨h1, h2, h3, h4⟩ := ih
    obtain ⟨g, hg, ec, eR⟩ := s.ex
    have hk := s.kn
    have hl : (l ++ [(k, R k, c)]).length = l.length + 1 := by simp
    have hW := rW_succ b l.length
    have hp := rW_pos b l.length
    have hpa : bt (rW b l.length - 1) ((R k k).natAbs : Int) := (h1 k k hk hk).le (by rw [Int.natAbs_natCast]; exact Nat.le_refl _)
    rw [hl, hW]
    refine ⟨fun i j hi hj => ?_, ?_, ?_, fun q hq => ?_⟩
    · refine bt_dvR ?_ hg (eR i j hi hj)
      have e : sg (R k k) * R i k * R k j = R i k * R k j := by unfold sg; rw [if_pos p, Int.one_mul]
      rw [e]
      exact ((hpa.mul (h1 i j hi hj)).sub ((h1 i k hi hk).mul (h1 k j hk hj))).mono (by omega)
    · exact bt_dvR ((h2.mul hpa).mono (by omega)) hg ec
    · exact s.cpos h3
    · rcases List.mem_append.mp hq with hq | hq
      · obtain ⟨a1, a2, a3, a4, a5⟩ := h4 q hq
        exact ⟨a1, a2, fun j hj => (a3 j hj).mono (by omega), a4, a5.mono (by omega)⟩
      · rw [List.mem_singleton.mp hq]
        exact ⟨hk, p, fun j hj => (h1 k j hk hj).mono (by omega), h3, h2.mono (by omega)⟩
theorem form_small {m b : Nat} {D : Nat → Nat → Int} (T : Tb (m + 1) D) (hD : ∀ i j, i < m + 1 → j < m + 1 → D i j ≤ 2000) : ∀ i j, i < m → j < m → bt 12 (form D i j) := by
  intro i j hi hj
  have a1 := T.b0 0 (i + 1) (by omega) (by omega)
  have a2 := hD 0 (i + 1) (by omega) (by omega)
  have a3 := T.b0 0 (j + 1) (by omega) (by omega)
  have a4 := hD 0 (j + 1) (by omega) (by omega)
  have a5 := T.b0 (i + 1) (j + 1) (by omega) (by omega)
  have a6 := hD (i + 1) (j + 1) (by omega) (by omega)
  show (D 0 (i + 1) + D 0 (j + 1) - D (i + 1) (j + 1)).natAbs < 2 ^ 12
  have : (2 : Nat) ^ 12 = 4096 := by decide
  omega

end My
end

section
set_option Elab.async false
set_option linter.all false
set_option maxRecDepth 100000
set_option maxHeartbeats 1600000
set_option pp.deepTerms false
set_option pp.deepTerms.threshold 9
open Ev PySem
namespace My
open LA
/-- an entry of a form with the first thing at nought -/
def xx (R : Mat) (i j : Nat) : Int := if i = 0 ∨ j = 0 then 0 else R (i - 1) (j - 1)
def ee (R : Mat) (i j : Nat) : Int := xx R i i + xx R j j - 2 * xx R i j
theorem ee_form {m : Nat} {D : Nat → Nat → Int} (T : Tb (m + 1) D) {i j : Nat} (hi : i < m + 1) (hj : j < m + 1) : ee (form D) i j = 2 * D i j := by
  have z0 := T.dg 0 (by omega)
  have zi := T.dg i hi
  have zj := T.dg j hj
  have sy := T.sy i j hi hj
  have si := T.sy 0 i (by omega) hi
  have sj := T.sy 0 j (by omega) hj
  have f : ∀ a b, a < m + 1 → b < m + 1 → xx (form D) a b = D 0 a + D 0 b - D a b := by
    intro a b ha hb
    unfold xx
    by_cases h : a = 0 ∨ b = 0
    · rw [if_pos h]
      rcases h with rfl | rfl
      · omega
      · have := T.sy 0 a (by omega) ha; omega
    · rw [if_neg h]
      unfold form
      rw [show a - 1 + 1 = a by omega, show b - 1 + 1 = b by omega]
  unfold ee
  rw [f i i hi hi, f j j hj hj, f i j hi hj]
  omega
theorem ee_step {n k : Nat} {R R' : Mat} {c c' : Int} (s : Step n R c k R' c') (h : Sym n R) (p : 0 < R k k) : ∃ g : Int, 0 < g ∧ c' * g = c * R k k ∧ ∀ i j, i < n + 1 → j < n + 1 → ee R' i j * g = R k k * ee R i j - (ext (R k) i - ext (R k) j) * (ext (R k) i - ext (R k) j) := by
  obtain ⟨g, hg, e1, e2⟩ := s.ex
  have ha : ((R k k).natAbs : Int) = R k k := by omega
  have hs : sg (R k k) = 1 := if_pos p
  rw [ha] at e1
  refine ⟨g, hg, e1, fun i j hi hj => ?_⟩
  have f : ∀ a b, a < n + 1 → b < n + 1 → xx R' a b * g = R k k * xx R a b - ext (R k) a * ext (R k) b := by
    intro a b h1 h2
    unfold xx ext
    by_cases za : a = 0
    · rw [if_pos (.inl za), if_pos (.inl za), if_pos za]; grind
    · by_cases zb : b = 0
      · rw [if_pos (.inr zb), if_pos (.inr zb), if_pos zb]; grind
      · rw [if_neg (by omega), if_neg (by omega), if_neg za, if_neg zb]
        have := e2 (a - 1) (b - 1) (by omega) (by omega)
        rw [ha, hs, h (a - 1) k (by omega) s.kn] at this
        rw [this]; grind
  have f1 := f i i hi hi
  have f2 := f j j hj hj
  have f3 := f i j hi hj
  unfold ee
  grind
/-- the law's own sum: a numerator, a denominator -/
def acc1 (m i j : Nat) (z : Int × Int) (s : Nat × Vec × Int) : Int × Int :=
  (z.1 * botv m s + topv m s * (ext (red m s.2.1) i - ext (red m s.2.1) j) * (ext (red m s.2.1) i - ext (red m s.2.1) j) * z.2, z.2 * botv m s)
def acc (m i j : Nat) (l : List (Nat × Vec × Int)) : Int × Int := l.foldl (acc1 m i j) (0, 1)
theorem acc_snoc (m i j : Nat) (l : List (Nat × Vec × Int)) (s : Nat × Vec × Int) : acc m i j (l ++ [s]) = acc1 m i j (acc m i j l) s := by
  unfold acc
  rw [List.foldl_append]
  rfl
theorem ext_red {m i : Nat} {r : Vec} (h : i < m + 1) : ((gx r m : Nat) : Int) * ext (red m r) i = ext r i := by
  unfold ext
  by_cases e : i = 0
  · rw [if_pos e, if_pos e, Int.mul_zero]
  · rw [if_neg e, if_neg e]; exact red_mul (by omega)
theorem topbot (m : Nat) (s : Nat × Vec × Int) (h : 0 < 2 * s.2.2 * s.2.1 s.1) : topv m s * (2 * s.2.2 * s.2.1 s.1) = ((gx s.2.1 m : Nat) : Int) * ((gx s.2.1 m : Nat) : Int) * botv m s ∧ 0 < topv m s ∧ 0 < botv m s := by
  have hg := gx_pos s.2.1 m
  unfold topv botv
  generalize 2 * s.2.2 * s.2.1 s.1 = q at *
  have ha : 0 < ((gx s.2.1 m : Nat) : Int) * ((gx s.2.1 m : Nat) : Int) := Int.mul_pos (by omega) (by omega)
  generalize ((gx s.2.1 m : Nat) : Int) * ((gx s.2.1 m : Nat) : Int) = a at *
  have hd : 0 < (Int.gcd a q : Int) := by
    have : Int.gcd a q ≠ 0 := by
      intro z
      rw [Int.gcd_eq_zero_iff] at z
      omega
    omega
  have d1 : (Int.gcd a q : Int) ∣ a := Int.gcd_dvd_left ..
  have d2 : (Int.gcd a q : Int) ∣ q := Int.gcd_dvd_right ..
  generalize (Int.gcd a q : Int) = d at *
  obtain ⟨u, rfl⟩ := d1
  obtain ⟨w, rfl⟩ := d2
  rw [Int.mul_ediv_cancel_left _ (by omega), Int.mul_ediv_cancel_left _ (by omega)]
  exact ⟨by grind, Int.pos_of_mul_pos_right ha (by omega) |> fun h => h, Int.pos_of_mul_pos_right h (by omega) |> fun h => h⟩
theorem acc_run {m : Nat} {R0 R : Mat} {l : List (Nat × Vec × Int)} {c : Int} (r : Run m R0 1 l R c) (h : Sym m R0) (i j : Nat) (hi : i < m + 1) (hj : j < m + 1) : ee R0 i j * c * (acc m i j l).2 = 2 * c * (acc m i j l).1 + ee R i j * (acc m i j l).2 := by
  induction r with
  | nil => show ee R0 i j * 1 * 1 = 2 * 1 * 0 + ee R0 i j * 1; omega
  | @snoc l R R' c c' k r p s ih =>
    have hs := r.sym h
    have hc := r.cpos (by decide)
    obtain ⟨g, hg, e1, e2⟩ := ee_step s hs p
    have e3 := e2 i j hi hj
    obtain ⟨t1, _, _⟩ := topbot m (k, R k, c) (show 0 < 2 * c * R k k from Int.mul_pos (by omega) p)
    have t1 : topv m (k, R k, c) * (2 * c * R k k) = ((gx (R k) m : Nat) : Int) * ((gx (R k) m : Nat) : Int) * botv m (k, R k, c) := t1
    have x1 := ext_red (m := m) (r := R k) hi
    have x2 := ext_red (m := m) (r := R k) hj
    rw [acc_snoc]
    unfold acc1
    dsimp only
    generalize botv m (k, R k, c) = b at *
    generalize topv m (k, R k, c) = a at *
    generalize ((gx (R k) m : Nat) : Int) = y at *
    generalize (acc m i j l).1 = TT at *
    generalize (acc m i j l).2 = B at *
    generalize ext (R k) i = ui at *
    generalize ext (R k) j = uj at *
    generalize ext (red m (R k)) i = wi at *
    generalize ext (red m (R k)) j = wj at *
    generalize ee R0 i j = E0 at *
    generalize ee R i j = E1 at *
    generalize ee R' i j = E2 at *
    generalize R k k = q at *
    have hw : y * (wi - wj) = ui - uj := by grind
    have hd : (ui - uj) * (ui - uj) = y * y * ((wi - wj) * (wi - wj)) := by rw [← hw]; grind
    rw [hd] at e3
    generalize wi - wj = w at *
    have goal : (E0 * c' * (B * b)) * g = (2 * c' * (TT * b + a * w * w * B) + E2 * (B * b)) * g := by
      have l1 : (E0 * c' * (B * b)) * g = E0 * (c' * g) * B * b := by grind
      have l2 : (2 * c' * (TT * b + a * w * w * B) + E2 * (B * b)) * g = 2 * (c' * g) * (TT * b + a * w * w * B) + (E2 * g) * (B * b) := by grind
      rw [l1, l2, e1, e3]
      have l3 : E0 * (c * q) * B * b = (E0 * c * B) * q * b := by grind
      have l4 : 2 * (c * q) * (TT * b + a * w * w * B) = 2 * c * TT * q * b + (a * (2 * c * q)) * w * w * B := by grind
      rw [l3, l4, ih, t1]
      grind
    exact Int.eq_of_mul_eq_mul_right (by omega) goal
/-- the layers add up -/
theorem adds {m : Nat} {D : Nat → Nat → Int} {R : Mat} {l : List (Nat × Vec × Int)} {c : Int} (T : Tb (m + 1) D) (r : Run m (form D) 1 l R c) (z : ∀ i j, i < m → j < m → R i j = 0) (i j : Nat) (hi : i < m + 1) (hj : j < m + 1) : (acc m i j l).1 = D i j * (acc m i j l).2 := by
  have h := acc_run r T.form_sym i j hi hj
  have hc := r.cpos (by decide)
  have hz : ee R i j = 0 := by
    have f : ∀ a b, a < m + 1 → b < m + 1 → xx R a b = 0 := by
      intro a b ha hb
      unfold xx
      by_cases e : a = 0 ∨ b = 0
      · rw [if_pos e]
      · rw [if_neg e]; exact z _ _ (by omega) (by omega)
    unfold ee
    rw [f i i hi hi, f j j hj hj, f i j hi hj]; rfl
  rw [hz, ee_form T hi hj] at h
  generalize (acc m i j l).1 = A at *
  generalize (acc m i j l).2 = B at *
  have : (2 * c) * A = (2 * c) * (D i j * B) := by grind
  exact Int.eq_of_mul_eq_mul_left (by omega) this

end My
end

section
set_option Elab.async false
set_option linter.all false
set_option maxRecDepth 100000
set_option maxHeartbeats 1600000
set_option pp.deepTerms false
set_option pp.deepTerms.threshold 9
open Ev PySem
namespace My
open LA
abbrev lq (m : Nat) (s : Nat × Vec × Int) : Int × Int × Vec := (topv m s, botv m s, ext (red m s.2.1))
theorem lyN_fold (m i j : Nat) : ∀ (l : List (Nat × Vec × Int)) (z : Int × Int), lyN i j (l.map (lq m)) z = l.foldl (acc1 m i j) z
  | [], _ => rfl
  | s :: l, z => by
    rw [List.map_cons, lyN, List.foldl_cons, lyN_fold m i j l]
    congr 1
    unfold acc1
    simp only [Int.mul_assoc]
theorem lyN_acc (m i j : Nat) (l : List (Nat × Vec × Int)) : lyN i j (l.map (lq m)) (0, 1) = acc m i j l := lyN_fold m i j l (0, 1)
theorem papr_lay (m : Nat) (l : List (Nat × Vec × Int)) : AV.tup (l.map (lay m)) = papr (m + 1) (l.map (lq m)) := by
  unfold papr
  rw [List.map_map]
  rfl
theorem red_le {m j : Nat} {r : Vec} {b : Nat} (hb : ∀ j, j < m → bt b (r j)) (hj : j < m) : bt b (red m r j) := bt_ediv (hb j hj)
theorem lq_bd {m b : Nat} {s : Nat × Vec × Int} (h : s.1 < m ∧ 0 < s.2.1 s.1 ∧ (∀ j, j < m → bt b (s.2.1 j)) ∧ 0 < s.2.2 ∧ bt b s.2.2) : 1 ≤ (lq m s).1 ∧ bt (2 * b + 2) (lq m s).1 ∧ 1 ≤ (lq m s).2.1 ∧ bt (2 * b + 2) (lq m s).2.1 ∧ ∀ i, i < m + 1 → bt (2 * b + 2) ((lq m s).2.2 i) := by
  obtain ⟨h1, h2, h3, h4, h5⟩ := h
  have hp : 0 < 2 * s.2.2 * s.2.1 s.1 := Int.mul_pos (by omega) h2
  obtain ⟨_, ht, hbt⟩ := topbot m s hp
  have hg : bt b ((gx s.2.1 m : Nat) : Int) := (h3 s.1 h1).le (by
    rw [Int.natAbs_natCast]
    exact gx_le h1 (by omega))
  refine ⟨ht, ?_, hbt, ?_, fun i hi => ?_⟩
  · exact (bt_ediv (hg.mul hg)).mono (by omega)
  · exact (bt_ediv (((show bt 2 2 by show (2 : Nat) < 4; decide).mul h5).mul (h3 s.1 h1))).mono (by omega)
  · show bt _ (ext (red m s.2.1) i)
    unfold ext
    split
    · exact Nat.two_pow_pos _
    · exact (red_le h3 (by omega)).mono (by omega)
theorem attr_ins' {m : Nat} {D : Nat → Nat → Int} : (lens m D).look = lens m D ∧ (lens m D).arg = lens m D := ⟨rfl, rfl⟩
theorem layers' {m : Nat} {D : Nat → Nat → Int} {n : Nat} {v : AV} {g : G} (h : callN P (n + 1) 56 [tab m D] g = .ok v g) (hb : v.back = some v) : callN P (n + 2) 44 [lens m D] g = .ok v g := by
  refine t_eq f44 rfl rfl ?_
  simp -implicitDefEqProofs only [n44, startA, List.map, List.length, List.replicate, List.cons_append, List.nil_append, Nat.reduceAdd, Nat.reduceSub, Nat.zero_add]
  have h1 := check_lengths n m D g
  refine t_expr (v := .non) (g1 := g) (by simp_all! [attr_ins'.1, attr_ins'.2, h1]) ?_
  exact t_ret (v := v) (g1 := g) (by simp_all! [attr_ins'.1, attr_lens, h, hb]) hb ⟨rfl, rfl⟩
end My
end

section
set_option Elab.async false
set_option linter.all false
set_option maxRecDepth 100000
set_option maxHeartbeats 1600000
set_option pp.deepTerms false
set_option pp.deepTerms.threshold 9
open Ev PySem
namespace My
open LA
theorem w_lens {m n : Nat} {D : Nat → Nat → Int} {g : G} {K : AV → G → Prop} (T : Tb m D) (k : K (lens m D) g) : Tr (makeA P (callN P (n + 6)) 0 true (AV.pures [tab m D]) [tab m D] g) K := by
  rw [pures_tab]
  exact Tr.of (make T n g) k

end My
end

section
set_option Elab.async false
set_option linter.all false
set_option maxRecDepth 100000
set_option maxHeartbeats 1600000
set_option pp.deepTerms false
set_option pp.deepTerms.threshold 9
open Ev PySem
namespace My
open LA
theorem rep_one (x : AV) (n : Nat) : (List.replicate n [x]).flatten = (List.range n).map fun _ => x := by
  induction n with
  | zero => rfl
  | succ n ih => rw [List.replicate_succ', List.flatten_append, ih, List.range_succ, List.map_append]; rfl
theorem mul_rep {g : G} {z : Int} {m : Nat} (h1 : 1 ≤ m) (hm : m ≤ 1000) : binop g .Mult (.tup [.int z]) (.int (m : Int)) = some (row m fun _ => z) := by
  have h1 : (decide ((1 : Int) ≤ m) && decide ((m : Int) ≤ 1000) && ![AV.int z].isEmpty && decide ([AV.int z].length ≤ 1000)) = true := by
    simp only [Bool.and_eq_true, decide_eq_true_eq]
    exact ⟨⟨⟨by omega, by omega⟩, rfl⟩, by simp⟩
  simp only [binop, mulA, h1, if_true, Int.toNat_natCast, rep_one]
theorem dv_ly {b L d m : Nat} {q : Int × Int × Vec} (h1 : bt b q.1) (h2 : bt b q.2.1) (h3 : ∀ i, i < m → bt b (q.2.2 i)) (hm : m ≤ L) (hL : 3 ≤ L) : Dv b L (d + 2) (lyv m q) := .tup (fun x hx => by
  simp only [List.mem_cons, List.not_mem_nil, or_false] at hx
  rcases hx with rfl | rfl | rfl
  · exact .int h1
  · exact .int h2
  · exact dv_row h3 hm) (by simpa using hL)
theorem dv_papr {b L d m : Nat} {Y : List (Int × Int × Vec)} (hY : Lyb b m Y) (hm : m ≤ L) (hL : 3 ≤ L) (hl : Y.length ≤ L) : Dv b L (d + 3) (papr m Y) := .tup (fun x hx => by
  obtain ⟨q, hq, rfl⟩ := List.mem_map.mp hx
  obtain ⟨_, h2, _, h4, h5⟩ := hY q hq
  exact dv_ly h2 h4 h5 hm hL) (by rw [List.length_map]; exact hl)
theorem dv_two {b L d : Nat} {x y : AV} (h : Dv b L d x) (k : Dv b L d y) (hL : 2 ≤ L) : Dv b L (d + 1) (.tup [x, y]) := .tup (fun z hz => by
  simp only [List.mem_cons, List.not_mem_nil, or_false] at hz
  rcases hz with rfl | rfl
  · exact h
  · exact k) (by simpa using hL)
end My
end

section
set_option Elab.async false
set_option linter.all false
set_option maxRecDepth 100000
set_option maxHeartbeats 1600000
set_option pp.deepTerms false
set_option pp.deepTerms.threshold 9
open Ev PySem
namespace My
open LA
theorem w_round {n r : Nat} {g : G} {K : AV → G → Prop} (hg : Ket r g) (H : ∀ (m c : Nat) (p : Nat → Nat → Int) g', 1 ≤ m → m ≤ 5 → 1 ≤ c → c ≤ 4 → (∀ i j, i < m → j < c → (p i j).natAbs ≤ 5) → Ket r g' → K (.own (lpts m c p)) g') : Tr (callN P (n + 3) 192 [.ref r] g) K := by
  (refine t_def f192 rfl rfl ?_; simp -implicitDefEqProofs only [e192, startA, List.map, List.length, List.replicate, List.cons_append, List.nil_append, Nat.reduceAdd, Nat.reduceSub, Nat.zero_add])
  refine s_if fun K2 hK => ?_
  fail "ev"
  refine w_sip (by omega) (by omega) hg fun v g1 hv k1 _ => ?_
  fail "ev"
  refine hK _ _ _ (by fail "tru") ?_
  clear hK K2
  refine w_dc (fun h => ?_) (fun h => ?_)
  · (refine s_ret ?_; fail "ev")
    refine w_points (by omega) (by omega) (by omega) (by omega) k1 fun m c p g2 hm1 hm hc1 hc hp k2 => ?_
    fail "ev"
    exact H m c p g2 hm1 (by omega) hc1 hc (fun i j hi hj => by have := hp i j hi hj; omega) k2
  · (with_reducible apply t_nil)
    obtain ⟨v1, g2, h1, hv1, k2, _⟩ := sip (n + 1) 3 r (by omega) (by omega) g1 k1
    have h1 : callN P (n + 2) 184 [.ref r, .int 3] g1 = .ok (.int (v1 : Int)) g2 := h1
    obtain ⟨c, hc⟩ : ∃ c : Nat, (1 : Int) + (v1 : Int) = (c : Int) := ⟨1 + v1, by omega⟩
    refine s_parO' ?_
    refine w_drawT (List.range c) (kx := fun i : Nat => AV.int (i : Int)) (g1 := g2) AV.int (fun g' => Ket r g') (fun x => x.natAbs ≤ 5) (by nomatch h1; rw [hc]; fail "ev"; exact ⟨rfl, rfl⟩) k2 (by fail "evd") ?_ ?_
    · intro j _ g5 k5
      refine ⟨_, by fail "tgd", ?_⟩
      fail "ev"
      refine w_sip (by omega) (by omega) k5 fun v g6 hv k6 _ => ?_
      fail "ev"
      exact ⟨1 + (v : Int), rfl, by omega, k6⟩
    intro l g3 hl hlz k3
    rw [List.length_range] at hl
    have el : l.map AV.int = (List.range c).map fun j => AV.int (l.getD j 0) := by rw [map_rng AV.int 0 l, hl]
    have hb : ∀ j, j < c → (l.getD j 0).natAbs ≤ 5 := by
      intro j hj
      rw [List.getD_eq_getElem?_getD, List.getElem?_eq_getElem (by omega)]
      exact hlz _ (List.getElem_mem _)
    rw [el]
    generalize hw : (fun j => l.getD j 0) = q
    have hwj : ∀ j, l.getD j 0 = q j := fun j => by rw [← hw]
    simp only [hwj] at hb ⊢
    clear hw hwj el hlz hl
    refine ⟨lrow c q, rfl, ?_⟩
    fail "ev"
    obtain ⟨v2, g4, h2, hv2, k4, _⟩ := sip (n + 1) 5 r (by omega) (by omega) g3 k3
    have h2 : callN P (n + 2) 184 [.ref r, .int 5] g3 = .ok (.int (v2 : Int)) g4 := h2
    obtain ⟨s, hs⟩ : ∃ s : Nat, (1 : Int) + (v2 : Int) = (s : Int) := ⟨1 + v2, by omega⟩
    refine s_forN s (k := fun i : Nat => .int (i : Int)) (g1 := g4) (fun t σ g' => Ket r g' ∧ ∃ (p : Nat → Nat → Int) (a3 a4 a5 : Option AV), (∀ i j, i < t → j < c → (p i j).natAbs ≤ 5) ∧ σ = [some (.ref r), some (lrow c q), some (.own (lpts t c p)), a3, a4, a5]) (by nomatch h2; rw [hs]; fail "ev"; exact ⟨rfl, rfl⟩) ⟨k4, fun _ _ => 0, none, none, none, fun i j hi _ => absurd hi (Nat.not_lt_zero i), rfl⟩ ?_ ?_
    · rintro t ht σ g5 ⟨k5, p, a3, a4, a5, hp, rfl⟩
      refine ⟨_, by fail "tgd", ?_⟩
      refine s_appO rfl fun K2 hK => ?_
      fail "ev"
      refine w_drawT (List.range c) (kx := fun j => AV.int (q j)) (g1 := g5) AV.int (fun g' => Ket r g') (fun x => x.natAbs ≤ 5) (by fail "ev"; exact ⟨rfl, rfl⟩) k5 (by fail "evd") ?_ ?_
      · intro j hj g6 k6
        have hj := List.mem_range.mp hj
        refine ⟨_, by fail "tgd", ?_⟩
        fail "ev"
        refine w_sip (by omega) (by omega) k6 fun v g7 hv k7 _ => ?_
        fail "ev"
        have hqj := hb j hj
        refine w_dc (fun h => ?_) (fun h => ?_)
        · fail "ev"
          exact ⟨q j, rfl, hqj, k7⟩
        · fail "ev"
          exact ⟨-q j, rfl, by omega, k7⟩
      intro l g6 hl hlz k6
      rw [List.length_range] at hl
      have el : l.map AV.int = (List.range c).map fun j => AV.int (l.getD j 0) := by rw [map_rng AV.int 0 l, hl]
      have hb : ∀ j, j < c → (l.getD j 0).natAbs ≤ 5 := by
        intro j hj
        rw [List.getD_eq_getElem?_getD, List.getElem?_eq_getElem (by omega)]
        exact hlz _ (List.getElem_mem _)
      rw [el]
      fail "ev"
      refine hK _ _ _ _ _ rfl (by rw [List.length_map, List.length_range]; exact Nat.lt_of_le_of_lt (show t ≤ 8 by omega) (by decide)) rfl (by fail "std") ?_
      clear hK K2
      (with_reducible apply t_nil)
      refine ⟨k6, fun k => if k = t then (fun j => l.getD j 0) else p k, a3, some (.int (t : Int)), a5, fun i j hi hj => ?_, ?_⟩
      · show ((if i = t then (fun j => l.getD j 0) else p i) j).natAbs ≤ 5
        by_cases hit : i = t
        · rw [if_pos hit]; exact hb j hj
        · rw [if_neg hit]; exact hp i j (by omega) hj
      · rw [← snocP]
    · rintro σ g5 ⟨k5, p, a3, a4, a5, hp, rfl⟩
      exact t_retT rfl (H s c p g5 (by omega) (by omega) (by omega) (by omega) hp k5)
theorem middle_w {m b n : Nat} {D : Nat → Nat → Int} {g : G} {K : AV → G → Prop} (T : Tb (m + 1) D) (hP : Psd m (form D)) (hD : ∀ i j, i < m + 1 → j < m + 1 → bt b (D i j)) (hb1 : 1 ≤ b) (hb : b ≤ 30) (H : ∀ (v : AV) (w : Vec), sm w (m + 1) ≠ 0 → (∀ q, q < m + 1 → bt (16 * (b + 5)) (w q)) → ((v = .non ∧ (w = fun _ => 1) ∧ ∀ w : Vec, sm w (m + 1) ≠ 0 → ¬ ∀ i, i < m + 1 → sumW (m + 1) D w i = sumW (m + 1) D w 0) ∨ (v = row (m + 1) w ∧ ∀ i, i < m + 1 → sumW (m + 1) D w i = sumW (m + 1) D w 0)) → K v g) : Tr (callN P (n + 8) 93 [lens (m + 1) D] g) K := by
  obtain ⟨v, hv, hv2⟩ := middle_of T hD hb1 hb n g
  have h1 : callN P (n + 7) 97 [lens (m + 1) D] g = .ok .non g := by
    have e1 : callN P (n + 6) 14 [lens (m + 1) D] g = .ok .non g := check_lengths (n + 5) (m + 1) D g
    have e2 := check_placed T hP n g
    refine t_eq f97 rfl rfl ?_
    simp -implicitDefEqProofs only [n97, startA, List.map, List.length, List.replicate, List.cons_append, List.nil_append, Nat.reduceAdd, Nat.reduceSub, Nat.zero_add]
    refine t_expr (v := .non) (g1 := g) (by simp_all! [attr_ins'.1, attr_ins'.2, e1]) ?_
    exact t_expr (v := .non) (g1 := g) (by simp_all! [attr_ins'.1, attr_ins'.2, e2]) (t_nil ⟨by trivial, rfl⟩)
  have hvb : v.back = some v := by
    rcases hv2 with ⟨rfl, _⟩ | ⟨w, rfl, _⟩ <;> rfl
  have key : callN P (n + 8) 93 [lens (m + 1) D] g = .ok v g := by
    refine t_eq f93 rfl rfl ?_
    simp -implicitDefEqProofs only [n93, startA, List.map, List.length, List.replicate, List.cons_append, List.nil_append, Nat.reduceAdd, Nat.reduceSub, Nat.zero_add]
    refine t_expr (v := .non) (g1 := g) (by simp_all! [attr_ins'.1, attr_ins'.2, h1]) ?_
    exact t_ret (v := v) (g1 := g) (by simp_all! [attr_ins'.1, attr_lens, hv, hvb]) hvb ⟨rfl, rfl⟩
  refine Tr.of key ?_
  have hsw : ∀ (w : Vec) i, sumW (m + 1) D w i = sm (fun q => D i q * w q) (m + 1) := fun w i => sm_congr fun j _ => Int.mul_comm (w j) (D i j)
  rcases hv2 with ⟨rfl, hno⟩ | ⟨w, rfl, h3, h4, h5⟩
  · refine H _ (fun _ => 1) ?_ (fun q _ => ?_) (.inl ⟨rfl, rfl, fun w hw he => hno w hw fun i hi => by rw [← hsw, ← hsw]; exact he i hi⟩)
    · have : ∀ k, sm (fun _ => (1 : Int)) k = k := fun k => by
        induction k with
        | zero => rfl
        | succ k ih => rw [sm, ih]; omega
      rw [this]; omega
    · exact (bt1 0).mono (by omega)
  · refine H _ w h3 h5 (.inr ⟨rfl, fun i hi => ?_⟩)
    rw [hsw, hsw]
    exact h4 i hi
theorem w_layersP {m n : Nat} {D : Nat → Nat → Int} {g : G} {K : AV → G → Prop} (T : Tb (m + 1) D) (hP : Psd m (form D)) (hm : m + 1 ≤ 5) (hD : ∀ i j, i < m + 1 → j < m + 1 → D i j ≤ 2000) (H : ∀ (Y : List (Int × Int × Vec)), Lyb 418 (m + 1) Y → Y.length ≤ 4 → lyB (m + 1) D Y = true → K (papr (m + 1) Y) g) : Tr (callN P (n + 6) 44 [lens (m + 1) D] g) K := by
  obtain ⟨l, R, c, hA, hd, h1⟩ := layers_only T n
  have ht := Run.tight (form_small (b := 12) T hD) hA.run
  have hll : l.length ≤ 4 := by have := hA.len; omega
  have hW : rW 12 l.length ≤ 208 := by
    unfold rW
    have : 2 ^ l.length ≤ 2 ^ 4 := Nat.pow_le_pow_right (by decide) hll
    omega
  have h1 := h1 g
  have hz : zerB m R = true := zerB_iff.mpr ((hA.run.whole T.form_sym hd).mpr hP)
  rw [if_pos hz, papr_lay] at h1
  refine Tr.of (layers' h1 rfl) (H (l.map (lq m)) ?_ (by rw [List.length_map]; exact hll) ?_)
  · intro q hq
    obtain ⟨s, hs, rfl⟩ := List.mem_map.mp hq
    obtain ⟨a1, a2, a3, a4, a5⟩ := ht.2.2.2 s hs
    exact lq_bd (b := 208) ⟨a1, a2, fun j hj => (a3 j hj).mono hW, a4, a5.mono hW⟩
  · refine List.all_eq_true.mpr fun q hq => decide_eq_true ?_
    obtain ⟨e1, e2⟩ := mem_prs.mp hq
    rw [lyN_acc]
    exact adds T hA.run (zerB_iff.mp hz) _ _ e1 (by omega)

end My
end

section
set_option Elab.async false
set_option linter.all false
set_option maxRecDepth 100000
set_option maxHeartbeats 1600000
set_option pp.deepTerms false
set_option pp.deepTerms.threshold 9
open Ev PySem
namespace My
open LA
theorem ball_true {m : Nat} {D : Nat → Nat → Int} {Y : List (Int × Int × Vec)} {w : Vec} {x y : Int} {b : Nat} (hm1 : 1 ≤ m) (hY : Lyb b m Y) (hl : lyB m D Y = true) (hw : sm w m ≠ 0) (hs : ∀ i, i < m → sumW m D w i = sumW m D w 0) (hy : 0 < y) (hg : Int.gcd x y = 1) (he : 2 * x * sm w m = sumW m D w 0 * y) : ballB m D (.tup [.int x, .int y]) (.tup [papr m Y, row m w]) = true := by
  have e1 : sm (toV (itmV (row m w))) m = sm w m := sm_congr fun i hi => toV_row m w hi
  have e2 : ∀ i, sumW m D (toV (itmV (row m w))) i = sumW m D w i := fun i => sm_congr fun j hj => by
    show toV (itmV (row m w)) j * D i j = w j * D i j
    rw [show toV (itmV (row m w)) j = w j from toV_row m w hj]
  unfold ballB
  have h1 : ratioB (.tup [.int x, .int y]) = true := by
    show (true && (decide (0 < y) && decide (Int.gcd x y = 1))) = true
    rw [decide_eq_true hy, decide_eq_true hg]; rfl
  rw [h1]
  show (true && (layersB m D (papr m Y) && (numsB (m : Int) (row m w) && (!decide (sm (toV (itmV (row m w))) m = 0) && (allS m (sumW m D (toV (itmV (row m w)))) && decide (2 * x * sm (toV (itmV (row m w))) m = sumW m D (toV (itmV (row m w))) 0 * y)))))) = true
  rw [e1, e2, papr_true hY hl, nums_rowT, decide_eq_false hw, decide_eq_true he]
  have : allS m (sumW m D (toV (itmV (row m w)))) = true := by
    unfold allS
    rw [List.all_eq_true]
    intro i hi
    have hi := List.mem_range.mp hi
    rw [e2, e2, hs i hi, decide_eq_true rfl]
  rw [this]; rfl
theorem fr_gcd {a b : Int} (hb : 0 < b) : 0 < b / (Int.gcd a b : Int) ∧ Int.gcd (a / (Int.gcd a b : Int)) (b / (Int.gcd a b : Int)) = 1 ∧ (a / (Int.gcd a b : Int)) * b = a * (b / (Int.gcd a b : Int)) := by
  have h0 : Int.gcd a b ≠ 0 := fun h => by
    have := (Int.gcd_eq_zero_iff.mp h).2
    omega
  have hgp : (0 : Int) < (Int.gcd a b : Int) := by omega
  obtain ⟨u, hu⟩ := Int.gcd_dvd_left (a := a) (b := b)
  obtain ⟨v, hv⟩ := Int.gcd_dvd_right (a := a) (b := b)
  generalize hG : (Int.gcd a b : Int) = G at *
  have eu : a / G = u := by rw [hu]; exact Int.mul_ediv_cancel_left _ (by omega)
  have ev : b / G = v := by rw [hv]; exact Int.mul_ediv_cancel_left _ (by omega)
  refine ⟨?_, ?_, ?_⟩
  · rw [ev]
    rcases Int.lt_or_le 0 v with h | h
    · exact h
    · have := Int.mul_nonpos_of_nonneg_of_nonpos (Int.le_of_lt hgp) h
      omega
  · rw [← hG]
    exact Int.gcd_ediv_gcd_ediv_gcd (by omega)
  · rw [eu, ev]
    grind
theorem mul5 (x : AV) (g : G) : binop g .Mult (.own [x]) (.int 5) = some (.own [x, x, x, x, x]) := rfl
theorem addOL' (g : G) (xs ys : List AV) (h : xs.length + ys.length ≤ Ev.sizeLine) : binop g .Add (.own xs) (.lst ys) = some (.own (xs ++ ys)) := by
  simp only [binop, addA, seqL, h, if_true]
theorem law_right (n r : Nat) (g : G) (hg : Ket r g) : ∃ g', callN P (n + 9) 2 [.ref r] g = .ok (.bl true) g' := by
  have key : Tr (callN P (n + 9) 2 [.ref r] g) (fun v _ => v = .bl true) := by
    (refine t_def f2 rfl rfl ?_; simp -implicitDefEqProofs only [e2, startA, List.map, List.length, List.replicate, List.cons_append, List.nil_append, Nat.reduceAdd, Nat.reduceSub, Nat.zero_add])
    refine s_forN 4 (k := fun i : Nat => .int (i : Int)) (g1 := g) (fun t σ g' => Ket r g' ∧ ∃ a1 a2 a3 a4 a5 a6 a7 a8 a9 a10 a11 a12 a13 a14 a15 a16 a17 a18, σ = [some (.ref r), a1, a2, a3, a4, a5, a6, a7, a8, a9, a10, a11, a12, a13, a14, a15, a16, a17, a18]) (by fail "ev"; exact ⟨rfl, rfl⟩) ⟨hg, _, _, _, _, _, _, _, _, _, _, _, _, _, _, _, _, _, _, rfl⟩ ?_ ?_
    · rintro t ht σ g1 ⟨k1, a1, a2, a3, a4, a5, a6, a7, a8, a9, a10, a11, a12, a13, a14, a15, a16, a17, a18, rfl⟩
      refine ⟨_, by fail "tgd", ?_⟩
      refine s_asgV fun K hK => ?_
      fail "ev"
      refine w_round k1 fun m1 c p g2 hm1 hm5 hc1 hc hp k2 => ?_
      have h3 := law_rowsK (show m1 ≤ 1000 by omega) (show c ≤ 1000 by omega) (p := p) (fun i j hi hj => by have := hp i j hi hj; omega)
      obtain ⟨T, hT⟩ := Tb.sqd hm1 (show m1 ≤ 8 by omega) (show c ≤ 8 by omega) (by omega) hp
      obtain ⟨m, rfl⟩ : ∃ m, m1 = m + 1 := ⟨m1 - 1, by omega⟩
      have hP : Psd m (form fun i j => sqd c (p i) (p j)) := psd_tof m c p
      nomatch h3 _ _
      refine hK _ _ _ _ (by fail "kpd") (by fail "std") ?_
      clear hK K h3 k1
      have hD : ∀ i j, i < m + 1 → j < m + 1 → (fun i j => sqd c (p i) (p j)) i j ≤ 2000 := fun i j hi hj => Int.le_trans (hT i j hi hj) (by decide)
      clear hT hp
      revert T hD hP
      generalize (fun i j => sqd c (p i) (p j)) = D
      intro T hP hD
      have hDb : ∀ i j, i < m + 1 → j < m + 1 → bt 11 (D i j) := fun i j hi hj => by
        have h1 := hD i j hi hj
        have h2 := T.b0 i j hi hj
        exact bt_small 2000 (by omega) (by decide)
      refine s_asgV fun K hK => ?_
      fail "ev"
      refine w_lens T ?_
      fail "ev"
      refine hK _ _ _ _ (by fail "kpd") (by fail "std") ?_
      clear hK K
      refine s_asgV fun K hK => ?_
      fail "ev"
      refine middle_w T hP hDb (by omega) (by omega) fun v w hw0 hwb hvw => ?_
      have hvs : v.solid = true := by rcases hvw with ⟨rfl, _⟩ | ⟨rfl, _⟩ <;> rfl
      fail "ev"
      refine hK _ _ _ _ (by fail "kpd") (by fail "std") ?_
      clear hK K
      -- the paper
      have hrow : row (m + 1) w = .tup ((List.range (m + 1)).map fun j => .int (w j)) := rfl
      have hmr := mul_rep (g := g2) (z := 1) (m := m + 1) (by omega) (by omega)
      refine t_cut (fun σ g' => g2 = g' ∧ ∃ Y : List (Int × Int × Vec), Lyb 418 (m + 1) Y ∧ Y.length ≤ 4 ∧ lyB (m + 1) D Y = true ∧ σ = [some (.ref r), some (.int (t : Int)), some (tab (m + 1) D), some (lens (m + 1) D), some v, some (.tup [papr (m + 1) Y, row (m + 1) w]), a6, a7, a8, a9, a10, a11, a12, a13, a14, a15, a16, a17, a18]) ?_ ?_
      · refine s_asgV fun K hK => ?_
        fail "ev"
        refine w_layersP T hP hm5 hD fun Y hY hYl hYt => ?_
        fail "ev"
        rcases hvw with ⟨rfl, rfl, _⟩ | ⟨rfl, hs⟩
        · refine w_btt rfl ?_
          fail "ev"
          rw [List.length_map, List.length_range]
          nomatch hmr
          refine hK _ _ _ _ (by fail "kpd") (by fail "std") ?_
          clear hK K
          (with_reducible apply t_nil)
          exact ⟨rfl, Y, hY, hYl, hYt, rfl⟩
        · refine w_bff rfl ?_
          fail "ev"
          refine hK _ _ _ _ (by fail "kpd") (by fail "std") ?_
          clear hK K
          (with_reducible apply t_nil)
          exact ⟨rfl, Y, hY, hYl, hYt, rfl⟩
      rintro σ _ ⟨rfl, Y, hY, hYl, hYt, rfl⟩
      clear hmr
      -- the sums
      have hlp : (List.length ((List.range (m + 1)).map fun i => row (m + 1) (D i)) : Int) = ((m + 1 : Nat) : Int) := by rw [List.length_map, List.length_range]
      refine s_asgV fun K hK => ?_
      refine w_compT (List.range (m + 1)) (kx := fun i : Nat => AV.int (i : Int)) (g1 := g2) (fun i => AV.int (sumW (m + 1) D w i)) (by fail "ev"; rw [List.length_map, List.length_range]; fail "ev"; exact ⟨rfl, rfl⟩) (le_sz (by rw [List.length_range]; omega)) ?_ ?_
      · intro i hi
        have hi := List.mem_range.mp hi
        refine ⟨_, by fail "tgd", ?_⟩
        fail "ev"
        refine w_compT (List.range (m + 1)) (kx := fun j : Nat => AV.int (j : Int)) (g1 := g2) (fun j => AV.int (w j * D i j)) (by fail "ev"; rw [List.length_map, List.length_range]; fail "ev"; exact ⟨rfl, rfl⟩) (le_sz (by rw [List.length_range]; omega)) ?_ ?_
        · intro j hj
          have hj := List.mem_range.mp hj
          have b1 := T.b0 i j hi hj
          have b2 := T.b1 i j hi hj
          have m1 : mulOk (w j) (D i j) = true := mulOk_r (by omega) (by omega)
          refine ⟨_, by fail "tgd", ?_⟩
          fail "ev"
          exact ⟨rfl, rfl⟩
        fail "ev"
        rw [sum_range]
        exact ⟨rfl, rfl⟩
      refine hK _ _ _ _ (by fail "kpd") (by fail "std") ?_
      clear hK K
      have hS0 : atI ((List.range (m + 1)).map fun i => AV.int (sumW (m + 1) D w i)) 0 = some (.int (sumW (m + 1) D w 0)) := qat_rng (k := 0) _ (by omega)
      have hm8 := T.hi
      have hSb : bt 280 (sumW (m + 1) D w 0) := by
        refine (sm_bt (f := fun j => w j * D 0 j) (b := 277) hm8 fun j hj => ((hwb j hj).mul (hDb 0 j (by omega) hj)).mono (by omega)).mono (by omega)
      have hAb : bt 280 (sm w (m + 1)) := (sm_bt hm8 hwb).mono (by omega)
      have hixS : idxA g2 (.lst ((List.range (m + 1)).map fun i => AV.int (sumW (m + 1) D w i))) (.int 0) = some (.int (sumW (m + 1) D w 0)) := hS0
      have hsum := sum_row (m + 1) w g2
      generalize hSS : AV.lst ((List.range (m + 1)).map fun i => AV.int (sumW (m + 1) D w i)) = SS at hixS
      have hSs : SS.solid = true := by rw [← hSS]; rfl
      clear hSS hS0
      refine s_asgV fun K hK => ?_
      fail "ev"
      rw [sum_range]
      refine hK _ _ _ _ (by fail "kpd") (by fail "std") ?_
      clear hK K
      (refine s_if fun K hK => ?_; fail "ev"; refine hK _ _ _ (by fail "tru") ?_; clear hK K)
      refine w_df hw0 ?_
      (with_reducible apply t_nil)
      -- the sign
      refine t_cut (fun σ g' => g2 = g' ∧ ∃ s : Int, (s = 1 ∨ s = -1) ∧ 0 < s * sm w (m + 1) ∧ σ = [some (.ref r), some (.int (t : Int)), some (tab (m + 1) D), some (lens (m + 1) D), some v, some (.tup [papr (m + 1) Y, row (m + 1) w]), some SS, a7, a8, some (.int (sm w (m + 1))), some (.int s), a11, a12, a13, a14, a15, a16, a17, a18]) ?_ ?_
      · by_cases h0 : 0 < sm w (m + 1)
        · (refine s_asgV fun K hK => ?_; fail "ev"; refine hK _ _ _ _ (by fail "kpd") (by fail "std") ?_; clear hK K)
          (with_reducible apply t_nil)
          exact ⟨rfl, 1, .inl rfl, by omega, rfl⟩
        · (refine s_asgV fun K hK => ?_; fail "ev"; refine hK _ _ _ _ (by fail "kpd") (by fail "std") ?_; clear hK K)
          (with_reducible apply t_nil)
          exact ⟨rfl, -1, .inr rfl, by omega, rfl⟩
      rintro σ _ ⟨rfl, s, hs1, hs2, rfl⟩
      have hsn : s.natAbs ≤ 1 := by omega
      have hsb : bt 1 s := bt_small 1 hsn (by decide)
      have m1 : mulOk s (sumW (m + 1) D w 0) = true := mulOk_l (by omega) (by omega)
      have m2 : mulOk 2 s = true := mulOk_l (by omega) (by omega)
      have m3 : mulOk (2 * s) (sm w (m + 1)) = true := mulOk_l (by omega) (by omega)
      have e23 : 2 * s * sm w (m + 1) = 2 * (s * sm w (m + 1)) := Int.mul_assoc ..
      have hpos : 0 < 2 * s * sm w (m + 1) := by rw [e23]; omega
      have hpb : bt 284 (2 * s * sm w (m + 1)) := (((bt_small (x := 2) (b := 2) 2 (by decide) (by decide)).mul hsb).mul hAb).mono (by omega)
      have hlow := law_low (n + 7) (s * sumW (m + 1) D w 0) (2 * s * sm w (m + 1)) hpos (hpb.mono (by omega)) g2
      have hlow : callN P (n + 8) 193 [.int (s * sumW (m + 1) D w 0), .int (2 * s * sm w (m + 1))] g2 = _ := hlow
      unfold fr at hlow
      (refine s_asgV fun K hK => ?_; nomatch hlow; refine hK _ _ _ _ (by fail "kpd") (by fail "std") ?_; clear hK K)
      obtain ⟨f1, f2, f3⟩ := fr_gcd (a := s * sumW (m + 1) D w 0) hpos
      have hxb : bt 284 (s * sumW (m + 1) D w 0 / (Int.gcd (s * sumW (m + 1) D w 0) (2 * s * sm w (m + 1)) : Int)) := bt_ediv ((hsb.mul hSb).mono (by omega))
      have hyb : bt 284 (2 * s * sm w (m + 1) / (Int.gcd (s * sumW (m + 1) D w 0) (2 * s * sm w (m + 1)) : Int)) := bt_ediv hpb
      clear hlow m1 m2 m3
      generalize s * sumW (m + 1) D w 0 / (Int.gcd (s * sumW (m + 1) D w 0) (2 * s * sm w (m + 1)) : Int) = x at *
      generalize 2 * s * sm w (m + 1) / (Int.gcd (s * sumW (m + 1) D w 0) (2 * s * sm w (m + 1)) : Int) = y at *
      have hrat : 2 * x * sm w (m + 1) = sumW (m + 1) D w 0 * y := by
        rcases hs1 with rfl | rfl <;> grind
      have hpd : Dv 418 6 4 (papr (m + 1) Y) := dv_papr hY (by omega) (by omega) (by omega)
      have hrd : ∀ z : Int, z.natAbs ≤ 100 → Dv 418 6 4 (row (m + 1) fun j => z * w j) := fun z hz => dv_row (fun i hi => (((bt_small (x := z) (b := 8) 100 hz (by decide)).mul (hwb i hi)).mono (by omega))) (by omega)
      have hrd1 : Dv 418 6 4 (row (m + 1) w) := dv_row (fun i hi => (hwb i hi).mono (by omega)) (by omega)
      have hgd : Dv 418 6 5 (.tup [papr (m + 1) Y, row (m + 1) w]) := dv_two hpd hrd1 (by omega)
      have hqd : Dv 290 6 2 (.tup [.int x, .int y]) := dv_two (.int (hxb.mono (by omega))) (.int (hyb.mono (by omega))) (by omega)
      have hla := law_is_ball T hqd hgd (by omega) (by omega) (by omega) (by omega) (by omega) (by omega) (by omega) (by omega) (n + 4) g2
      have hla : callN P (n + 8) 194 [tab (m + 1) D, .tup [.int x, .int y], .tup [papr (m + 1) Y, row (m + 1) w]] g2 = _ := hla
      refine t_cut (fun σ g' => g2 = g' ∧ σ = [some (.ref r), some (.int (t : Int)), some (tab (m + 1) D), some (lens (m + 1) D), some v, some (.tup [papr (m + 1) Y, row (m + 1) w]), some SS, a7, a8, some (.int (sm w (m + 1))), some (.int s), some (.tup [.int x, .int y]), a12, a13, a14, a15, a16, a17, a18]) ?_ ?_
      · rcases hvw with ⟨rfl, rfl, _⟩ | ⟨rfl, hs⟩
        · (refine s_if fun K hK => ?_; fail "ev"; refine hK _ _ _ (by fail "tru") ?_; clear hK K)
          fail "br"
          (with_reducible apply t_nil)
          (with_reducible apply t_nil)
          exact ⟨rfl, rfl⟩
        · rw [ball_true (by omega) hY hYt hw0 hs f1 f2 hrat] at hla
          (refine s_if fun K hK => ?_; nomatch hla; refine hK _ _ _ (by fail "tru") ?_; clear hK K)
          fail "br"
          (with_reducible apply t_nil)
          (with_reducible apply t_nil)
          exact ⟨rfl, rfl⟩
      rintro σ _ ⟨rfl, rfl⟩
      clear hla
      refine s_asgV fun K hK => ?_
      fail "ev"
      refine w_menu (by simp) (by simp) ?_ k2 fun u g3 hu k3 _ => ?_
      · intro x hx
        simp only [List.mem_cons, List.not_mem_nil, or_false] at hx
        rcases hx with rfl | rfl | rfl <;> rfl
      obtain ⟨z, rfl, hz⟩ : ∃ z : Int, u = .int z ∧ z.natAbs ≤ 100 := by
        simp only [List.mem_cons, List.not_mem_nil, or_false] at hu
        rcases hu with rfl | rfl | rfl
        · exact ⟨_, rfl, by decide⟩
        · exact ⟨_, rfl, by decide⟩
        · exact ⟨_, rfl, by decide⟩
      clear hu
      fail "ev"
      refine hK _ _ _ _ (by fail "kpd") (by fail "std") ?_
      clear hK K
      refine s_forN 7 (k := fun i : Nat => .int (i : Int)) (g1 := g3) (fun _ σ g' => Ket r g' ∧ ∃ a7 a8 a13 a14 a15 a16 a17 a18, σ = [some (.ref r), some (.int (t : Int)), some (tab (m + 1) D), some (lens (m + 1) D), some v, some (.tup [papr (m + 1) Y, row (m + 1) w]), some SS, a7, a8, some (.int (sm w (m + 1))), some (.int s), some (.tup [.int x, .int y]), some (.int z), a13, a14, a15, a16, a17, a18]) (by fail "ev"; exact ⟨rfl, rfl⟩) ⟨k3, _, _, _, _, _, _, _, _, rfl⟩ ?_ ?_
      · rintro i hi σ g4 ⟨k4, a7, a8, a13, a14, a15, a16, a17, a18, rfl⟩
        refine ⟨_, by fail "tgd", ?_⟩
        -- so many times as great
        refine s_asgV fun K hK => ?_
        fail "ev"
        refine w_compT (List.range (m + 1)) (kx := fun j => AV.int (w j)) (g1 := g4) (fun j => AV.int (z * w j)) (by fail "ev"; exact ⟨rfl, rfl⟩) (le_sz (by rw [List.length_range]; omega)) ?_ ?_
        · intro j hj
          have m1 : mulOk z (w j) = true := mulOk_l (by omega) (by omega)
          refine ⟨_, by fail "tgd", ?_⟩
          fail "ev"
          exact ⟨rfl, rfl⟩
        fail "ev"
        refine hK _ _ _ _ (by fail "kpd") (by fail "std") ?_
        clear hK K
        -- the paper
        refine s_asgV fun K hK => ?_
        fail "ev"
        refine bent (B := 418) (L := 6) (by omega) 5 n hgd (by omega) k4 fun u1 g5 hu1 k5 => ?_
        have s1 := hu1.solid
        fail "ev"
        refine bent (B := 418) (L := 6) (by omega) 5 n hgd (by omega) k5 fun u2 g6 hu2 k6 => ?_
        have s2 := hu2.solid
        fail "ev"
        refine w_menu (by simp) (by simp) ?_ k6 fun u g7 hu k7 _ => ?_
        · intro x hx
          simp only [List.mem_cons, List.not_mem_nil, or_false] at hx
          rcases hx with rfl | rfl | rfl | rfl
          · rfl
          · rfl
          · exact AV.back_solid s1
          · exact AV.back_solid s2
        have hud : Dv 420 7 7 u := by
          simp only [List.mem_cons, List.not_mem_nil, or_false] at hu
          rcases hu with rfl | rfl | rfl | rfl
          · exact hgd.mono (by omega) (by omega) (by omega)
          · exact (dv_two hpd (hrd z hz) (by omega) : Dv 418 6 5 _).mono (by omega) (by omega) (by omega)
          · exact hu1
          · exact hu2
        have hus := hud.solid
        fail "ev"
        refine hK _ _ _ _ (by fail "kpd") (by fail "std") ?_
        clear hK K hu s1 s2 hu1 hu2
        -- the fraction
        have m4 : mulOk 2 x = true := mulOk_l (by omega) (by omega)
        have m5 : mulOk 2 y = true := mulOk_l (by omega) (by omega)
        have hb1 : bt 290 1 := bt_small 1 (by decide) (by decide)
        (refine s_asgV fun K hK => ?_; fail "ev"; refine hK _ _ _ _ (by fail "kpd") (by fail "std") ?_; clear hK K)
        have hm5 := mul5 (.tup [.int x, .int y]) g7
        refine s_asgV fun K hK => ?_
        nomatch hm5
        refine w_pbin (addOL' _ _ _ (by show (10 : Nat) ≤ 16777216; omega)) ?_
        fail "ev"
        refine w_menu (by simp) (by simp) ?_ k7 fun c g8 hc k8 _ => ?_
        · intro x hx
          simp only [List.cons_append, List.nil_append, List.mem_cons, List.not_mem_nil, or_false] at hx
          rcases hx with rfl | rfl | rfl | rfl | rfl | rfl | rfl | rfl | rfl | rfl <;> rfl
        have hx2 : bt 290 (2 * x) := ((bt_small (x := 2) (b := 2) 2 (by decide) (by decide)).mul hxb).mono (by omega)
        have hy2 : bt 290 (2 * y) := ((bt_small (x := 2) (b := 2) 2 (by decide) (by decide)).mul hyb).mono (by omega)
        have hx1 : bt 290 (x + 1) := ((hxb.mono (show 284 ≤ 285 by omega)).add (bt_small 1 (by decide) (by decide))).mono (by omega)
        have hcd : Dv 290 6 2 c := by
          simp only [List.cons_append, List.nil_append, List.mem_cons, List.not_mem_nil, or_false] at hc
          rcases hc with rfl | rfl | rfl | rfl | rfl | rfl | rfl | rfl | rfl | rfl
          · exact hqd
          · exact hqd
          · exact hqd
          · exact hqd
          · exact hqd
          · exact dv_two (.int hx1) (.int (hyb.mono (by omega))) (by omega)
          · exact dv_two (.int hx2) (.int hy2) (by omega)
          · exact .int (hxb.mono (by omega))
          · refine .lst (fun z hz => ?_) (by simp)
            simp only [List.mem_cons, List.not_mem_nil, or_false] at hz
            rcases hz with rfl | rfl
            · exact .int (hxb.mono (by omega))
            · exact .int (hyb.mono (by omega))
          · exact dv_two (.int (hxb.mono (by omega))) (.int (bt0 _)) (by omega)
        have hcs := hcd.solid
        fail "ev"
        refine hK _ _ _ _ (by fail "kpd") (by fail "std") ?_
        clear hK K hc
        have hla := law_is_ball T hcd hud (by omega) (by omega) (by omega) (by omega) (by omega) (by omega) (by omega) (by omega) (n + 4) g8
        have hla : callN P (n + 8) 194 [tab (m + 1) D, c, u] g8 = _ := hla
        have hpl := holds_ball_dv T hcd hud (by omega) (by omega) (by omega) (by omega) (by omega) (by omega) (n + 1) g8
        have hpl : callN P (n + 8) 197 [.tup [.str "ball", tab (m + 1) D, c], u] g8 = _ := hpl
        generalize ballB (m + 1) D c u = F at hla hpl
        have hr := (Shw.bl F).repr (by omega) (by omega) g8
        have he := (Shw.bl F).eq
        (refine s_if fun K hK => ?_; nomatch hpl, hla; refine hK _ _ _ (by fail "tru") ?_; clear hK K)
        fail "br"
        (with_reducible apply t_nil)
        (with_reducible apply t_nil)
        exact ⟨k8, _, _, _, _, _, _, _, _, rfl⟩
      · rintro σ g4 ⟨k4, a7, a8, a13, a14, a15, a16, a17, a18, rfl⟩
        (with_reducible apply t_nil)
        exact ⟨k4, _, _, _, _, _, _, _, _, _, _, _, _, _, _, _, _, _, _, rfl⟩
    · rintro σ g1 ⟨_, a1, a2, a3, a4, a5, a6, a7, a8, a9, a10, a11, a12, a13, a14, a15, a16, a17, a18, rfl⟩
      fail "go"
      rfl
  obtain ⟨v, g', h, rfl⟩ := key.get
  exact ⟨g', h⟩
theorem law_eval (ns : List Int) (_ : ns.length ≤ 63) : ∃ g, callN P 10 0 [.scr (ns.map AV.int)] [] = .ok (.bl true) g := by
  have key : Tr (callN P 10 0 [.scr (ns.map AV.int)] []) (fun v _ => v = .bl true) := by
    refine t_def f0 rfl rfl ?_
    show TrS (evSs P (callN P 9) e0.body [some (.scr (ns.map AV.int)), none] []) _ _
    obtain ⟨c, hc, hr⟩ : ∃ c : Nat, c ≤ 5 ∧ (if (2 : Int) < (if (5 : Int) < (ns.length : Int) then 5 else (ns.length : Int)) then (if (5 : Int) < (ns.length : Int) then 5 else (ns.length : Int)) else 2) = (c : Int) := by
      by_cases h1 : (5 : Int) < (ns.length : Int)
      · rw [if_pos h1, if_pos (by omega)]; exact ⟨5, by omega, rfl⟩
      · rw [if_neg h1]
        by_cases h2 : (2 : Int) < (ns.length : Int)
        · rw [if_pos h2]; exact ⟨ns.length, by omega, rfl⟩
        · rw [if_neg h2]; exact ⟨2, by omega, rfl⟩
    refine t_retX (r_bf1 ?_)
    refine r_draw (fun b : Bool => AV.bl b) (fun _ => True) (fun b => b = true) (xs := List.range c) (g1 := []) (by simp_all! [hr, show c < 1000000000 by omega]; rfl) trivial (by rw [List.length_range]; exact le_sz (by omega)) ?_ ?_
    · intro k hk g _
      have hk := List.mem_range.mp hk
      obtain ⟨g1, h1, k1⟩ := kettle 8 ns k (by omega) g
      obtain ⟨g2, h2⟩ := law_right 0 g.length g1 k1
      have h1 : callN P 9 180 [.scr (ns.map AV.int), .int (k : Int)] g = .ok (.ref g.length) g1 := h1
      have h2 : callN P 9 2 [.ref g.length] g1 = .ok (.bl true) g2 := h2
      exact ⟨_, rfl, .of (v := .bl true) (g := g2) (by simp_all! [h1, h2]) ⟨true, rfl, rfl, trivial⟩⟩
    · intro l g' _ hl _
      refine ⟨_, qall_map g' (fun b => b) l, _, rfl, ?_⟩
      have : l.all (fun x => x) = true := by rw [List.all_eq_true]; exact hl
      rw [this]
  obtain ⟨v, g', h, rfl⟩ := key.get
  exact ⟨g', h⟩

end My
end

end
open PySem PySem.W PySem.Calls PyProof.Rows