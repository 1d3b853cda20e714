import PyProof.Rows.All
import Wide.All
import OpenK.AllK
import Wide.FinOn
import KE.KStateDown
import Lean
import HandS.ForMost
import HandS.Exc
import HandS.TryOnly
import HandS.TryMany
import HandS.ExcOwn
import HandS.ExcInit
import HandS.ExcField
import HandS.WordsExc
import HandS.Flow
import HandS.Style
import HandS.More
import HandS.Deep
import HandS.IsInst
import HandS.TupAny
import HandS.Wide
import HandS.Conv
import HandS.Zip
import HandS.DictComp
import HandS.Defaults
import HandS.Head0
import HandS.Head1
import HandS.Head2
import HandS.HeadEnd
import HandS.HeadHook1
import HandS.HeadHook2
import HandS.Small
import PySem.Challenge.RW_dayled_k12_given_lines
set_option Elab.async false
set_option linter.all false
set_option maxRecDepth 100000
set_option maxHeartbeats 4000000
/-! A small language of defs (Ex, Cm), its reading by HandS's words, and the translation of a program's text into it. -/
namespace PL
open PySem PySem.Spec PyProof.Rows L2

/-- the built-ins that are called by name -/
inductive Bl where
  | len | isinst | list | tuple | int | str | abs | max | min | sum | all | any | sorted | dict | bool
  deriving DecidableEq, Repr
/-- methods of built-in types -/
inductive Mt where
  | append | pop0 | pop1 | insert | extend | index | join | split | upper | dget1 | dget2 | dpop1 | clear | reverse
  deriving DecidableEq, Repr
/-- what a for walks -/
inductive Sk where
  | seq | rng1 | rng2 | rng3 | enum | zip | keys | rev | vals | items
  deriving DecidableEq, Repr
inductive Tg where
  | one (i : Nat)
  | tup (ts : List Tg)
inductive Ex where
  | var (i : Nat)
  | int (i : Int) | bl (b : Bool) | non | str (s : Str) | ty (n : String) | cls (x : Str)
  | bin (op : Operator) (a b : Ex)
  | neg (a : Ex) | not (a : Ex) | and (a b : Ex) | or (a b : Ex) | ite (c a b : Ex)
  | cmp (op : CmpOp) (a b : Ex) | chain (o1 o2 : CmpOp) (a b c : Ex)
  | lst (es : List Ex) | tup (es : List Ex) | dct (ks vs : List Ex)
  | call (f : Nat) (es : List Ex)
  | new (c : Str) (f : Nat) (es : List Ex)
  | meth (c m : Str) (f : Nat) (o : Ex) (es : List Ex)
  | blt (b : Bl) (es : List Ex)
  | mth (m : Mt) (o : Ex) (es : List Ex)
  | attr (o : Ex) (f : Str)
  | idx (o i : Ex)
  | slc (o lo hi : Ex)
  | lc (elt : Ex) (tg : Tg) (k : Sk) (ss cs : List Ex) (own : List Nat)
  | dc (ke ve : Ex) (tg : Tg) (k : Sk) (ss cs : List Ex) (own : List Nat)
/-- a caught error's field, and what stands around it in an except suite -/
inductive Cm where
  | asg (t : Tg) (e : Ex)
  | par2 (i j : Nat) (a b : Ex)
  | par3 (i j k : Nat) (a b c : Ex)
  | sub (o i v : Ex)
  | fld (o : Ex) (f : Str) (v : Ex)
  | aug (i : Nat) (op : Operator) (e : Ex)
  | ex (e : Ex)
  | ret (e : Ex)
  | retn
  | ite (c : Ex) (a b : List Cm)
  | whl (c : Ex) (b : List Cm)
  | fr (t : Tg) (k : Sk) (ss : List Ex) (b : List Cm)
  | raise (x : Str) (f : Nat) (es : List Ex)
  | tryAs (body : List Cm) (x : Str) (i : Nat) (w : Str) (f : Str)   -- except x as e: return [w, e.f]
  | pass | brk | cont

/-! ### look-ups -/
def ixOf (x : Str) : List Str → Option Nat
  | [] => none
  | y :: r => if y == x then some 0 else (ixOf x r).map (· + 1)
theorem ixOf_get {x : Str} : ∀ {N : List Str} {i : Nat}, ixOf x N = some i → N[i]? = some x
  | [], _, h => by cases h
  | y :: r, i, h => by
    unfold ixOf at h
    by_cases e : (y == x) = true
    · rw [if_pos e] at h
      cases h
      simpa using e
    · rw [if_neg e] at h
      cases q : ixOf x r with
      | none => rw [q] at h; cases h
      | some j =>
        rw [q] at h
        cases h
        simpa using ixOf_get q
def mapO {α β : Type} (f : α → Option β) : List α → Option (List β)
  | [] => some []
  | a :: r => (f a).bind fun b => (mapO f r).map fun bs => b :: bs
theorem mapO_nil {α β : Type} {f : α → Option β} {ys : List β} (h : mapO f [] = some ys) : ys = [] := by
  cases h
  rfl
theorem mapO_cons {α β : Type} {f : α → Option β} {a : α} {r : List α} {ys : List β} (h : mapO f (a :: r) = some ys) : ∃ b bs, ys = b :: bs ∧ f a = some b ∧ mapO f r = some bs := by
  unfold mapO at h
  cases e : f a with
  | none => rw [e] at h; cases h
  | some b =>
    rw [e] at h
    cases q : mapO f r with
    | none =>
      rw [q] at h
      cases h
    | some bs =>
      rw [q] at h
      cases h
      exact ⟨b, bs, rfl, rfl, rfl⟩
def ixD (p : Str × Option Str) : List He.DefD → Option Nat
  | [] => none
  | d :: r => if d.at_ == p then some 0 else (ixD p r).map (· + 1)
theorem ixD_get {p : Str × Option Str} : ∀ {ds : List He.DefD} {i : Nat}, ixD p ds = some i → ∃ d, ds[i]? = some d ∧ d.at_ = p
  | [], _, h => by cases h
  | d :: r, i, h => by
    unfold ixD at h
    by_cases e : (d.at_ == p) = true
    · rw [if_pos e] at h
      cases h
      exact ⟨d, rfl, by simpa using e⟩
    · rw [if_neg e] at h
      cases q : ixD p r with
      | none => rw [q] at h; cases h
      | some j =>
        rw [q] at h
        cases h
        obtain ⟨d2, h1, h2⟩ := ixD_get q
        exact ⟨d2, by simpa using h1, h2⟩
/-- what is known of the text: its defs, classes, own errors, texts by name, the names that it does not bind -/
structure Px where
  ds : List He.DefD
  cls : List Str
  exs : List Str
  txts : List (Str × Str)
  free : List Str
  noat : List (Str × Str)
/-- .. and of the def that is read: its slots, its scope -/
structure Sx where
  p : Px
  N : List Str
  sc : Scope

namespace Sx
def gl (S : Sx) (x : Str) : Bool := S.sc.names.lookup x == some .globalImplicit && !(x == ("__debug__" : Str)) && !(x == ("__name__" : Str))
def ok (x : Str) : Bool := !(x == ("__debug__" : Str)) && !(x == ("__classdict__" : Str))
def slot (S : Sx) (x : Str) : Option Nat := if (S.sc.names.lookup x == some .local || S.sc.names.lookup x == some .cell || S.sc.names.lookup x == some .free) && ok x then ixOf x S.N else none
/-- a slot that may be stored -/
def slotW (S : Sx) (x : Str) : Option Nat := if S.sc.names.lookup x == some .local && ok x then ixOf x S.N else none
/-- .. a cell too -/
def slotC (S : Sx) (x : Str) : Option Nat := if (S.sc.names.lookup x == some .local || S.sc.names.lookup x == some .cell) && ok x then ixOf x S.N else none
def blt (S : Sx) (x : Str) : Bool := S.gl x && S.p.free.contains x
def fn (S : Sx) (x : Str) (m : Option Str) : Option Nat := ixD (x, m) S.p.ds
/-- the one class that has the method -/
def methOf (S : Sx) (m : Str) : Option (Str × Nat) := match S.p.cls.filterMap fun c => (S.fn c (some m)).map fun i => (c, i) with
  | [r] => some r
  | _ => none
end Sx

def trTg (S : Sx) : Nat → Expr → Option Tg
  | 0, _ => none
  | n + 1, e => match e with
    | .Name x _ => (S.slotC x).map .one
    | .Tuple es _ _ => (mapO (trTg S n) es).map .tup
    | _ => none
def trName (S : Sx) (x : Str) : Option Ex := match S.slot x with
  | some i => some (.var i)
  | none => if S.gl x then (match S.p.txts.lookup x with
      | some z => some (.str z)
      | none => if S.p.cls.contains x || S.p.exs.contains x then some (.cls x)
        else if S.p.free.contains x then (match bootBuiltins x with
          | some (.type n) => some (.ty n)
          | _ => none)
        else none)
    else none
def Bl.of (x : Str) (k : Nat) : Option Bl :=
  if k == 1 then
    (if x == "len" then some .len else if x == "list" then some .list else if x == "tuple" then some .tuple else if x == "int" then some .int else if x == "str" then some .str else if x == "abs" then some .abs
     else if x == "max" then some .max else if x == "min" then some .min else if x == "sum" then some .sum else if x == "all" then some .all else if x == "any" then some .any else if x == "sorted" then some .sorted
     else if x == "dict" then some .dict else if x == "bool" then some .bool else none)
  else if k == 2 then (if x == "isinstance" then some .isinst else if x == "max" then some .max else if x == "min" then some .min else none)
  else none
def Bl.name : Bl → Str
  | .len => "len" | .isinst => "isinstance" | .list => "list" | .tuple => "tuple" | .int => "int" | .str => "str" | .abs => "abs" | .max => "max" | .min => "min" | .sum => "sum" | .all => "all" | .any => "any" | .sorted => "sorted" | .dict => "dict" | .bool => "bool"
def Mt.of (m : Str) (k : Nat) : Option Mt :=
  if k == 0 then (if m == "pop" then some .pop0 else none)
  else if k == 1 then (if m == "append" then some .append else if m == "pop" then some .pop1 else if m == "extend" then some .extend else none)
  else none
/-- what is walked -/
def trSrc (S : Sx) (f : Expr → Option Ex) (tg : Expr) (it : Expr) : Option (Sk × List Ex) := match it with
  | .Call (.Name x _) args [] _ =>
    if S.blt x then
      (if x == "range" then (match args with
        | [a] => (f a).map fun a => (.rng1, [a])
        | [a, b] => (f a).bind fun a => (f b).map fun b => (.rng2, [a, b])
        | _ => none)
      else if x == "enumerate" then (match args, tg with
        | [a], .Tuple _ _ _ => (f a).map fun a => (.enum, [a])
        | _, _ => none)
      else if x == "zip" then (match args, tg with
        | [a, b], .Tuple _ _ _ => (f a).bind fun a => (f b).map fun b => (.zip, [a, b])
        | _, _ => none)
      else (f it).map fun e => (.seq, [e]))
    else (f it).map fun e => (.seq, [e])
  | _ => (f it).map fun e => (.seq, [e])
/-- the block of a comprehension -/
def ownOf (N : List Str) (scope : Scope) : List (Str × Nat) := scope.names.filterMap fun p => match p.2 with
  | .local | .cell => (ixOf p.1 N).map fun i => (p.1, i)
  | _ => none
def isStar : Expr → Bool
  | .Starred _ _ => true
  | _ => false
def isComp : Expr → Bool
  | .ListComp _ _ _ _ | .SetComp _ _ _ _ | .DictComp _ _ _ _ _ => true
  | _ => false
def isSup : Expr → Bool
  | .Call (.Name x _) [] [] _ => x == "super"
  | _ => false
def markOk (op : CmpOp) (b : Expr) : Bool := !(behindInMarks op b)
/-- a part of a slice; Ex.non where there is none -/
def trPart (f : Expr → Option Ex) : Option Expr → Option Ex
  | none => some .non
  | some e => (f e).bind fun x => match x with
    | .non => none
    | y => some y
/-- the tests of a comprehension, one at most -/
def trIfs (f : Expr → Option Ex) : List Expr → Option (List Ex)
  | [] => some []
  | [c] => (f c).map fun c => [c]
  | _ => none
def trE (S : Sx) : Nat → Expr → Option Ex
  | 0, _ => none
  | n + 1, e => match e with
    | .Constant (.int i) _ _ => some (.int i)
    | .Constant (.bool b) _ _ => some (.bl b)
    | .Constant .none _ _ => some .non
    | .Constant (.str s) _ _ => some (.str s)
    | .Name x _ => trName S x
    | .BinOp a op b _ => (trE S n a).bind fun a => (trE S n b).map fun b => .bin op a b
    | .UnaryOp .Not a _ => (trE S n a).map .not
    | .UnaryOp .USub a _ => (trE S n a).map .neg
    | .BoolOp _ [a] _ => trE S n a
    | .BoolOp .And (a :: b :: r) p => (trE S n a).bind fun a => (trE S n (.BoolOp .And (b :: r) p)).map fun b => .and a b
    | .BoolOp .Or (a :: b :: r) p => (trE S n a).bind fun a => (trE S n (.BoolOp .Or (b :: r) p)).map fun b => .or a b
    | .IfExp c a b _ => (trE S n c).bind fun c => (trE S n a).bind fun a => (trE S n b).map fun b => .ite c a b
    | .Compare a [op] [b] _ => if markOk op b then (trE S n a).bind fun a => (trE S n b).map fun b => .cmp op a b else none
    | .Compare a [o1, o2] [b, c] _ => if !(lastMarks [o1, o2] [b, c]) then (trE S n a).bind fun a => (trE S n b).bind fun b => (trE S n c).map fun c => .chain o1 o2 a b c else none
    | .List es _ => (mapO (trE S n) es).map .lst
    | .Tuple es _ _ => (mapO (trE S n) es).map .tup
    | .Dict [] [] _ => some (.dct [] [])
    | .Dict ks vs _ => if ks.all (·.isSome) && decide (ks.length = vs.length) && decide (ks.length ≤ 15) then (mapO (trE S n) (ks.filterMap id)).bind fun a => (mapO (trE S n) vs).map fun b => .dct a b else none
    | .Call (.Name x _) args [] _ =>
      if S.gl x then
        (if S.p.free.contains x then (match Bl.of x args.length with
            | some b => (mapO (trE S n) args).map fun as => .blt b as
            | none => none)
        else match S.fn x none with
          | some f => (mapO (trE S n) args).map fun as => .call f as
          | none => if S.p.cls.contains x then (match S.fn x (some "__init__") with
              | some f => (mapO (trE S n) args).map fun as => .new x f as
              | none => none)
            else none)
      else none
    | .Call (.Attribute o m ap) args [] cp =>
      if isSup o then none else
      (match S.methOf m with
      | some (c, f) => if ap.endLine == cp.line && decide (args.length < 30) then (trE S n o).bind fun o => (mapO (trE S n) args).map fun as => .meth c m f o as else none
      | none => (match Mt.of m args.length with
        | some k => if ap.endLine == cp.line && decide (args.length < 30) then (trE S n o).bind fun o => (mapO (trE S n) args).map fun as => .mth k o as else none
        | none => none))
    | .Attribute o f _ => if isSup o then none else (trE S n o).map fun o => .attr o f
    | .Subscript o (.Slice lo hi none _) _ => (trE S n o).bind fun o => (trPart (trE S n) lo).bind fun lo => (trPart (trE S n) hi).map fun hi => .slc o lo hi
    | .Subscript o i _ => (trE S n o).bind fun o => (trE S n i).map fun i => .idx o i
    | .ListComp elt [⟨tg, iter, ifs, 0⟩] scope _ =>
      if blkC S.N S.sc scope (ownOf S.N scope) then
        (trSrc S (trE S n) tg iter).bind fun s => (trTg { S with sc := scope } n tg).bind fun t => (trE { S with sc := scope } n elt).bind fun el => (trIfs (trE { S with sc := scope } n) ifs).map fun cs => .lc el t s.1 s.2 cs ((ownOf S.N scope).map (·.2))
      else none
    | _ => none
end PL
set_option Elab.async false
set_option linter.all false
set_option maxRecDepth 100000
set_option maxHeartbeats 4000000
namespace PL
open PySem PySem.Spec PyProof.Rows L2

/-! ### operators, whatever the values are -/
abbrev W0 : WX := fun _ _ _ _ => False
def rNo : R2 := fun _ _ _ _ => False
def rStrAdd : R2 := fun x y H Q => ∃ i j : Str, x = .str i ∧ y = .str j ∧ i.length + j.length ≤ sizeLine ∧ Q (.str (i ++ j)) H
def rAdd (K : PySem.W.Frag) : R2 := fun x y H Q => rI0 (fun i j => .int (i + j)) x y H Q ∨ rStrAdd x y H Q ∨ rCat x y H Q ∨ rCatA K x y H Q
def rBin (K : PySem.W.Frag) : Operator → R2
  | .Add => rAdd K
  | .Sub => rI0 fun i j => .int (i - j)
  | .Mult => fun x y H Q => rI CMulW (fun i j => .int (i * j)) x y H Q ∨ rRep x y H Q
  | .FloorDiv => rI CDivN fun i j => .int (i.fdiv j)
  | .Mod => rI (fun _ j => j ≠ 0) fun i j => .int (i.fmod j)
  | .Pow => rI CPow fun i j => .int (i ^ j.toNat)
  | _ => rNo
def rStrB (f : Str → Str → Bool) : R2 := fun x y H Q => ∃ i j : Str, x = .str i ∧ y = .str j ∧ Q (.bl (f i j)) H
def rIntB (f : Int → Int → Bool) : R2 := rI0 fun i j => .bl (f i j)
def rIsN (neg : Bool) : R2 := fun x y H Q => y = .non ∧ Q (.bl (if neg then !decide (x = .non) else decide (x = .non))) H
def rIsBl (neg : Bool) : R2 := fun x y H Q => ∃ a b : Bool, x = .bl a ∧ y = .bl b ∧ Q (.bl (if neg then !decide (a = b) else decide (a = b))) H
def rStrIn (neg : Bool) : R2 := fun x y H Q => ∃ i j : Str, x = .str i ∧ y = .str j ∧ Q (.bl (if neg then !(!(Builtin.Str.occurrences j i 0 j.length 1).isEmpty) else !(Builtin.Str.occurrences j i 0 j.length 1).isEmpty)) H
def rDctIn (neg : Bool) : R2 := fun x y H Q => ∃ a o, y = .ref a ∧ DGet H a x o ∧ Q (.bl (if neg then !o.isSome else o.isSome)) H
def rCmp (K : PySem.W.Frag) : CmpOp → R2
  | .Eq => rEqD K
  | .NotEq => rNeD K
  | .Lt => rIntB fun i j => decide (i < j)
  | .LtE => rIntB fun i j => decide (i ≤ j)
  | .Gt => rIntB fun i j => decide (j < i)
  | .GtE => rIntB fun i j => decide (j ≤ i)
  | .Is => fun x y H Q => rIsN false x y H Q ∨ rIsBl false x y H Q
  | .IsNot => fun x y H Q => rIsN true x y H Q ∨ rIsBl true x y H Q
  | .In => fun x y H Q => rInD K x y H Q ∨ rIn K false x y H Q ∨ rStrIn false x y H Q ∨ rDctIn false x y H Q
  | .NotIn => fun x y H Q => rNotInD K x y H Q ∨ rIn K true x y H Q ∨ rStrIn true x y H Q ∨ rDctIn true x y H Q
section
variable {X : Cx}
theorem opr_no {f : Value → Value → Sem Value} : OpR X f rNo := fun _ _ _ _ _ _ _ _ _ _ _ _ h => h.elim
theorem opr_or {f : Value → Value → Sem Value} {r r' : R2} (h : OpR X f r) (h' : OpR X f r') : OpR X f (fun x y H Q => r x y H Q ∨ r' x y H Q) := fun pins s σ H x y v u Q I rx ry q =>
  q.elim (h pins s σ H x y v u Q I rx ry) (h' pins s σ H x y v u Q I rx ry)
theorem opr_bin (op : Operator) : OpR X (binaryOp op) (rBin X.K op) := by
  cases op
  case Add => exact opr_or op_add (opr_or op_add_str (opr_or op_cat op_catA))
  case Sub => exact op_sub
  case Mult => exact opr_or op_mulW op_rep
  case FloorDiv => exact op_fdivN
  case Mod => exact op_modN
  case Pow => exact op_pow
  all_goals exact opr_no
theorem opr_isN : OpR X (compareOp .Is) (rIsN false) := op_isN
theorem opr_notN : OpR X (compareOp .IsNot) (rIsN true) := op_notN
theorem opr_dctIn (hu : X.A.units + 1 < cLine) : OpR X (compareOp .In) (rDctIn false) := fun pins s σ H x y v u Q I rx ry h => by
  obtain ⟨a, o, e, g, q⟩ := h
  subst e
  obtain rfl : u = Value.ref a := ry
  exact d_in hu I g rx fun s3 I3 => ⟨.bl o.isSome, H, I3, rfl, q⟩
theorem opr_dctNotIn (hu : X.A.units + 1 < cLine) : OpR X (compareOp .NotIn) (rDctIn true) := fun pins s σ H x y v u Q I rx ry h => by
  obtain ⟨a, o, e, g, q⟩ := h
  subst e
  obtain rfl : u = Value.ref a := ry
  exact d_notIn hu I g rx fun s3 I3 => ⟨.bl (!o.isSome), H, I3, rfl, q⟩
theorem opr_cmp (op : CmpOp) (hu : X.A.units + 65 < cLine) : OpR X (compareOp op) (rCmp X.K op) := by
  cases op
  case Eq => exact op_eqD (by omega)
  case NotEq => exact op_neD (by omega)
  case Lt => exact op_lt
  case LtE => exact op_le
  case Gt => exact op_gt
  case GtE => exact op_ge
  case Is => exact opr_or opr_isN op_isBl
  case IsNot => exact opr_or opr_notN op_notBl
  case In => exact opr_or (op_inD hu) (opr_or op_in_seq (opr_or op_in_str (opr_dctIn (by omega))))
  case NotIn => exact opr_or (op_notInD hu) (opr_or op_notIn_seq (opr_or op_notin_str (opr_dctNotIn (by omega))))
end
end PL
set_option Elab.async false
set_option linter.all false
set_option maxRecDepth 100000
set_option maxHeartbeats 4000000
namespace PL
open PySem PySem.Spec PyProof.Rows L2

/-! ### built-ins by values -/
abbrev RB := List V → Hp → VK → Prop
/-- list(d) of a dict, locked or not -/
def rListR : RB := fun xs H Q => ∃ p kvs, xs = [.ref p] ∧ Rd H p (.dK kvs) ∧ ∀ q, H q = none → Q (.ref q) (upd H q (.lst (kvs.map fun kv => kV kv.1)))
def rLenA (K : PySem.W.Frag) : RB := fun xs H Q => (∃ x n, xs = [x] ∧ LenV K x H n ∧ Q (.int n) H) ∨ ∃ a kvs, xs = [V.ref a] ∧ Rd H a (.dK kvs) ∧ Q (.int kvs.length) H
def rIsiA (K : PySem.W.Frag) : RB := fun xs H Q => rIsi K xs H Q ∨ rIsiT K xs H Q
def rListA (K : PySem.W.Frag) : RB := fun xs H Q => (∃ p ys, xs = [.ref p] ∧ (SqL K H p ys ∨ SqT K H p ys) ∧ ∀ l, H l = none → Q (.ref l) (upd H l (.lst ys))) ∨ rListR xs H Q
def rTupA (K : PySem.W.Frag) : RB := fun xs H Q => ∃ p ys, xs = [.ref p] ∧ ((SqL K H p ys ∧ ∀ l, H l = none → Q (.ref l) (upd H l (.tup ys))) ∨ (SqT K H p ys ∧ Q (.ref p) H))
def rIntA : RB := fun xs H Q => ((∃ i, xs = [.int i] ∧ Q (.int i) H) ∨ ∃ k, xs = [.bl k] ∧ Q (.int (if k then 1 else 0)) H) ∨ ∃ a n, xs = [.str a] ∧ PySem.intText? a = some n ∧ a.length ≤ 640 ∧ Q (.int n) H
def rStrOf : RB := fun xs H Q => ∃ i : Int, xs = [.int i] ∧ i.natAbs.log2 < 1920 ∧ Q (.str (toString i)) H
def rAbsA : RB := fun xs H Q => ∃ i, xs = [.int i] ∧ Q (.int (if i < 0 then -i else i)) H
def rMaxA (K : PySem.W.Frag) : RB := fun xs H Q => (∃ i j, xs = [.int i, .int j] ∧ Q (.int (if j > i then j else i)) H) ∨ rMax K xs H Q
def rMinA (K : PySem.W.Frag) : RB := fun xs H Q => (∃ i j, xs = [.int i, .int j] ∧ Q (.int (if j < i then j else i)) H) ∨ rMin K xs H Q
def rBlt (K : PySem.W.Frag) : Bl → RB
  | .len => rLenA K
  | .isinst => rIsiA K
  | .list => rListA K
  | .tuple => rTupA K
  | .int => rIntA
  | .str => rStrOf
  | .abs => rAbsA
  | .max => rMaxA K
  | .min => rMinA K
  | .sum => rSum K
  | .all => rAll K
  | .any => rAny K
  | .sorted => fun xs H Q => rSorted K xs H Q ∨ rSortedS K xs H Q
  | _ => fun _ _ _ => False
def Bl.val : Bl → Value
  | .len => .builtin "len" | .isinst => .builtin "isinstance" | .list => .type "list" | .tuple => .type "tuple" | .int => .type "int" | .str => .type "str" | .abs => .builtin "abs" | .max => .builtin "max" | .min => .builtin "min" | .sum => .builtin "sum"
  | .all => .builtin "all" | .any => .builtin "any" | .sorted => .builtin "sorted" | .dict => .type "dict" | .bool => .type "bool"
theorem Bl.boot (b : Bl) : bootBuiltins b.name = some b.val := by
  cases b <;> decide +kernel
section
variable {X : Cx}
theorem cr_lenR : CallR X (.builtin "len") (fun xs H Q => ∃ a kvs, xs = [V.ref a] ∧ Rd H a (.dK kvs) ∧ Q (.int kvs.length) H) :=
  fun pins s σ H xs us Q I r ⟨a, kvs, e, ha, q⟩ => by
    subst e
    obtain ⟨u, e2, ru⟩ := vals1 r
    subst e2
    obtain rfl : u = Value.ref a := ru
    exact d_len I ha fun t _ J => ⟨.int kvs.length, H, J, ⟨t, rfl⟩, q⟩
theorem cr_listR (hc : X.calm = true) : CallR X (.type "list") rListR :=
  fun pins s σ H xs us Q I r ⟨p, kvs, e, hk, q⟩ => by
    subst e
    obtain ⟨u, e2, ru⟩ := vals1 r
    subst e2
    obtain rfl : u = Value.ref p := ru
    obtain ⟨hz, hs, ws, kw, dd⟩ := dk_rd I.hok hk
    obtain ⟨ep, da⟩ := dd.dictAt
    have len : kvs.length = ws.length := kw.length
    refine PySem.W.kdl_call (PySem.W.kdl_dict (knd := mixKind X.prog X.w)
      (kvs := ws) (ep := ep) hs) (I.ok.hd hc) da (len ▸ hz) ?_
    intro h2 tk acc cap keep isl got
    have nw : H s.heap.objs.size = none := I.hok.fresh (Nat.le_refl _)
    have ok : ObjOk X.prog X.w (upd H s.heap.objs.size (.lst (kvs.map fun kv => kV kv.1))) h2
        s.heap.objs.size (.lst (kvs.map fun kv => kV kv.1)) := by
      refine ⟨by rw [List.length_map]; exact hz, acc.toList, cap, ?_, by rw [Array.toArray_toList]; exact isl⟩
      refine vals_of_at ?_ ?_
      · rw [List.length_map, Array.length_toList]
        exact len.trans got.1.symm
      · intro j x w hx hw
        obtain ⟨k, y, kin, ki⟩ := got.2 j w (by rw [← Array.getElem?_toList]; exact hw)
        rw [List.getElem?_map] at hx
        have ek : (kvs[j]?).map (fun kv => kv.1) = some k := by
          rw [← List.getElem?_map, KV.keys kw, List.getElem?_map, kin]
          rfl
        cases hq : kvs[j]? with
        | none => rw [hq] at ek; cases ek
        | some kv =>
          rw [hq] at ek hx
          cases ek
          cases hx
          exact keyIs_rel ki
    exact ⟨.ref s.heap.objs.size, _, I.laid keep (Nat.le_refl _) ok, rfl, q _ nw⟩
theorem callr_blt (hc : X.calm = true) (b : Bl) : CallR X b.val (rBlt X.K b) := by
  cases b
  case len => exact CallR.or call_len cr_lenR
  case isinst => exact CallR.or call_isi call_isiT
  case list => exact CallR.or call_list_of (cr_listR hc)
  case tuple => exact call_tuple_of
  case int => exact CallR.or call_int1 call_int_str
  case str => exact call_str_int
  case abs => exact call_abs
  case max => exact CallR.or (call_max2 hc) (cr_max hc)
  case min => exact CallR.or (call_min2 hc) (cr_min hc)
  case sum => exact cr_sum hc
  case all => exact cr_all hc
  case any => exact cr_any hc
  case sorted => exact CallR.or cr_sorted cr_sortedS
  all_goals exact fun _ _ _ _ _ _ _ _ _ h => h.elim
/-! ### calls: what is raised is wished for at the caller's slots -/
variable {CX : CXT} {k : Nat} {f C : Addr} {fd : FuncData} {ps : List Str} {sp : Sp} {E : L2.St → XK} {x m : Str} {p pos apos : Pos} {e o : Expr} {es : List Expr} {ta : TE} {t : TA}
theorem run_makeS {pins : List (Addr × Obj)} {σ : L2.St} {H : Hp} {s : Shared} {Q : VK} {us : List Value} {vs : List V} (M : Mk X.K C f) (F : FnOk X.prog X.w X.K X.mg X.base CX k f fd ps sp) (hr : Room (k + 1) X.A) (hb : L2.Binds X.K fd ps [])
    (hx : PassesAt CX X σ (E σ)) (I : Inv X pins σ H s) (r : Vals vs us)
    (h : ∀ x dx, H x = none → H dx = none → dx ≠ x → sp (.ref x :: vs) (upd (upd H dx (.own x)) x (.ins C dx [])) (fun v H2 => v = .non ∧ Q (.ref x) H2) (E σ)) :
    wpAny (model X.prog X.w) X.A (call (.ref C) us) (EP X pins σ Q) X.xe s := by
  have hq := h (s.heap.objs.size + 1) s.heap.objs.size (I.hok.fresh (Nat.le_succ _)) (I.hok.fresh (Nat.le_refl _)) (Nat.ne_of_lt (Nat.lt_succ_self _))
  have I2 := Inv.made (C := C) I
  have r2 : Vals (V.ref (s.heap.objs.size + 1) :: vs) (Value.ref (s.heap.objs.size + 1) :: us) := .cons rfl r
  have hl : (Value.ref (s.heap.objs.size + 1) :: us).length = ps.length := by
    have e := r2.length
    rw [F.len _ _ _ _ hq] at e
    exact e.symm
  have b := hb _ (Value.ref (s.heap.objs.size + 1) :: us) I2.kIn (by rw [List.append_nil]; exact hl)
  rw [List.append_nil] at b
  refine wpAny_call (make_map (f := f) I.kIn M.makes M.init (beq_iff_eq.mp M.fn) (codeAny_mono (F.run _ X.stack _ _ ⟨Value.ref (s.heap.objs.size + 1) :: us, []⟩ (Value.ref (s.heap.objs.size + 1) :: us) _ _ (E σ) (hr.make C us [])
    (I2.env0.make C us []) b r2 hq) fun r s' hq' => ?_))
  cases r with
  | error er => exact hx pins _ _ er s' I2 hq'
  | ok fl =>
    cases fl with
    | ret u =>
      obtain ⟨v, H', I3, rv, ev, q3⟩ := I2.after hq'
      subst ev
      exact ⟨rv, ⟨V.ref (s.heap.objs.size + 1), H', I3, rfl, q3⟩⟩
    | next => exact False.elim hq'
    | brk => exact False.elim hq'
    | cont => exact False.elim hq'
def tMakeS (C : Addr) (sp : Sp) (E : L2.St → XK) (t : TA) : TE := fun σ H Q => t σ H fun vs H1 => ∀ x dx, H1 x = none → H1 dx = none → dx ≠ x →
  sp (.ref x :: vs) (upd (upd H1 dx (.own x)) x (.ins C dx [])) (fun v H2 => v = .non ∧ Q (.ref x) H2) (E σ)
def tCallW (sp : Sp) (E : L2.St → XK) (t : TA) : TE := fun σ H Q => t σ H fun vs H1 => sp vs H1 Q (E σ)
def tMethS (C : Addr) (m : Str) (sp : Sp) (E : L2.St → XK) (ta : TE) (t : TA) : TE := fun σ H Q => ta σ H fun x H1 => ∃ a dx fs, x = .ref a ∧ H1 a = some (.ins C dx fs) ∧ fs.lookup m = none ∧ t σ H1 fun vs H2 => sp (x :: vs) H2 Q (E σ)
theorem star_of {env : Env} {e : Expr} {es : List Expr} (h : isStar e = false) : starEach (e :: es) env = (false, eval e env) :: starEach es env := by
  cases e <;> first | rfl | (cases h)
theorem star_any {env : Env} {pos : Pos} : ∀ {es : List Expr}, es.all (fun e => !isStar e) = true → (backTo pos (starEach es env)).any (·.1) = false
  | [], _ => rfl
  | e :: es, h => by
    obtain ⟨h1, h2⟩ := Bool.and_eq_true_iff.mp (show ((!isStar e) && es.all fun e => !isStar e) = true from h)
    rw [star_of (by simpa using h1)]
    show (false || (backTo pos (starEach es env)).any (·.1)) = false
    rw [star_any h2] <;> rfl
theorem star_all {env : Env} {pos : Pos} : ∀ {es : List Expr}, es.all (fun e => !isStar e) = true → (backTo pos (starEach es env)).all (fun x => !x.1) = true
  | [], _ => rfl
  | e :: es, h => by
    obtain ⟨h1, h2⟩ := Bool.and_eq_true_iff.mp (show ((!isStar e) && es.all fun e => !isStar e) = true from h)
    rw [star_of (by simpa using h1)]
    show (true && (backTo pos (starEach es env)).all (fun x => !x.1)) = true
    rw [star_all h2] <;> rfl
theorem pe_callW (F : FnOk X.prog X.w X.K X.mg X.base CX k f fd ps sp) (hr : Room k X.A) (hg : Gl X x) (hm : X.mg x = some (.ref f)) (hk : PySem.W.keepIn X.K (.ref f) = true) (hb : Binds X.K fd ps []) (hx : ∀ σ, PassesAt CX X σ (E σ))
    (ha : PA X (e :: es) t) (hdb : (x == ("__debug__" : Str)) = false) (hst : (e :: es).all (fun e => !isStar e) = true) : PE X (.Call (.Name x p) (e :: es) [] pos) (tCallW sp E t) := by
  have h2 := (Bool.and_eq_true_iff.mp (show ((!isStar e) && es.all fun e => !isStar e) = true from hst))
  refine ⟨fun pins s σ H Q I h => ?_⟩
  refine wpAny_Call_Name_kw (ld_glob I hg hm ?_ hdb)
  refine PySem.W.callWith_K (h₀ := X.base) I.ok.mod.kin hk (thn (ha.run pos pins s σ H _ I h) fun us s1 ⟨vs, H1, I1, r, q⟩ => ⟨I1.kIn, ?_⟩) (star_of (by simpa using h2.1)) (star_any h2.2)
  exact run_fnS F hr hb (hx σ) I1 r q
theorem pe_callW0 (F : FnOk X.prog X.w X.K X.mg X.base CX k f fd ps sp) (hr : Room k X.A) (hg : Gl X x) (hm : X.mg x = some (.ref f)) (hk : PySem.W.keepIn X.K (.ref f) = true) (hb : Binds X.K fd ps []) (hx : ∀ σ, PassesAt CX X σ (E σ))
    (hdb : (x == ("__debug__" : Str)) = false) : PE X (.Call (.Name x p) [] [] pos) (tCallW sp E tNil) := by
  refine ⟨fun pins s σ H Q I h => ?_⟩
  refine wpAny_Call_Name_kw (ld_glob I hg hm ?_ hdb)
  exact PySem.W.callWith_K0 I.kIn hk (run_fnS F hr hb (hx σ) I .nil h)
theorem pe_makeS (M : Mk X.K C f) (F : FnOk X.prog X.w X.K X.mg X.base CX k f fd ps sp) (hr : Room (k + 1) X.A) (hg : Gl X x) (hm : X.mg x = some (.ref C)) (hb : Binds X.K fd ps []) (hx : ∀ σ, PassesAt CX X σ (E σ))
    (ha : PA X (e :: es) t) (hdb : (x == ("__debug__" : Str)) = false) (hst : (e :: es).all (fun e => !isStar e) = true) : PE X (.Call (.Name x p) (e :: es) [] pos) (tMakeS C sp E t) := by
  have h2 := (Bool.and_eq_true_iff.mp (show ((!isStar e) && es.all fun e => !isStar e) = true from hst))
  refine ⟨fun pins s σ H Q I h => ?_⟩
  refine wpAny_Call_Name_kw (ld_glob I hg hm ?_ hdb)
  refine PySem.W.callWith_K (h₀ := X.base) I.ok.mod.kin M.kp (thn (ha.run pos pins s σ H _ I h) fun us s1 ⟨vs, H1, I1, r, q⟩ => ⟨I1.kIn, ?_⟩) (star_of (by simpa using h2.1)) (star_any h2.2)
  exact run_makeS M F hr hb (hx σ) I1 r q
theorem pe_makeS0 (M : Mk X.K C f) (F : FnOk X.prog X.w X.K X.mg X.base CX k f fd ps sp) (hr : Room (k + 1) X.A) (hg : Gl X x) (hm : X.mg x = some (.ref C)) (hb : Binds X.K fd ps []) (hx : ∀ σ, PassesAt CX X σ (E σ))
    (hdb : (x == ("__debug__" : Str)) = false) : PE X (.Call (.Name x p) [] [] pos) (tMakeS C sp E tNil) := by
  refine ⟨fun pins s σ H Q I h => ?_⟩
  refine wpAny_Call_Name_kw (ld_glob I hg hm ?_ hdb)
  exact PySem.W.callWith_K0 I.kIn M.kp (run_makeS (us := []) M F hr hb (hx σ) I .nil h)
/-- how a method's call is run, super() apart -/
theorem base_of {o : Expr} (h : isSup o = false) (m : Str) (env : Env) : attributeBase o m env (eval o env) = eval o env := by
  cases o
  case Call f args kws p =>
    cases f
    case Name x q =>
      cases args
      case nil =>
        cases kws
        case nil =>
          have h1 : (x == ("super" : Str)) = false := h
          unfold attributeBase
          have h2 : (x != ("super" : Str)) = true := by rw [bne, h1] <;> rfl
          simp [h2]
        all_goals rfl
      all_goals rfl
    all_goals rfl
  all_goals rfl
end
end PL
set_option Elab.async false
set_option linter.all false
set_option maxRecDepth 100000
set_option maxHeartbeats 4000000
namespace PL
open PySem PySem.Spec PyProof.Rows L2
theorem form_of {env : Env} {pos : Pos} {es : List Expr} (hs : es.all (fun e => !isStar e) = true) (hn : es.length < 30) : methodCallForm es.length (backTo pos (starEach es env)) (backToKw pos (keywordEach [] env)) = true := by
  unfold methodCallForm
  rw [star_all hs]
  have e : keywordEach [] env = [] := rfl
  rw [e]
  show (true && true && decide (es.length + 0 < 30)) = true
  simp [hn]
theorem meth_tree {o : Expr} (h : isSup o = false) (m : Str) {es : List Expr} (apos pos : Pos) (env : Env) (hl : (apos.endLine == pos.line) = true) (hs : es.all (fun e => !isStar e) = true) (hn : es.length < 30) :
    eval (.Call (.Attribute o m apos) es [] pos) env = (do
      let ov ← eval o env
      standAt apos.atName
      let (f, first) ← holding [ov] (getMethod ov m (do return (← importBound o env).getD true))
      callWith pos f first (backTo pos (starEach es env)) (backToKw pos (keywordEach [] env))) := by
  have e1 : eval (.Call (.Attribute o m apos) es [] pos) env = (do
      let ov ← attributeBase o m env (eval o env)
      standAt apos.atName
      methodCall o m apos pos env ov (es.length + ([] : List Keyword).length) (backTo pos (starEach es env)) (backToKw pos (keywordEach [] env))) := rfl
  rw [e1, base_of h]
  have f : methodCallForm (es.length + ([] : List Keyword).length) (backTo pos (starEach es env)) (backToKw pos (keywordEach [] env)) = true := form_of hs hn
  simp only [methodCall, f, calleeOf, methodCallPos, hl, Bool.not_true, Bool.false_or, if_true, pure_bind]
section
variable {X : Cx} {CX : CXT} {k : Nat} {f C : Addr} {fd : FuncData} {ps : List Str} {sp : Sp} {E : L2.St → XK} {x m : Str} {p pos apos : Pos} {e o : Expr} {es : List Expr} {ta te : TE} {t : TA}
theorem pe_methW (he : PE X o ta) (c : Cls X.K C) (hm : Meth X.K C m f) (F : FnOk X.prog X.w X.K X.mg X.base CX k f fd ps sp) (hr : Room k X.A) (hb : L2.Binds X.K fd ps []) (hx : ∀ σ, PassesAt CX X σ (E σ)) (ha : PA X (e :: es) t)
    (hsup : isSup o = false) (hl : (apos.endLine == pos.line) = true) (hst : (e :: es).all (fun e => !isStar e) = true) (hn : (e :: es).length < 30) :
    PE X (.Call (.Attribute o m apos) (e :: es) [] pos) (tMethS C m sp E ta t) := by
  have h2 := (Bool.and_eq_true_iff.mp (show ((!isStar e) && es.all fun e => !isStar e) = true from hst))
  refine ⟨fun pins s σ H Q I h => ?_⟩
  refine PySem.W.methodCall_KW (thn (he.run pins s σ H _ I h) fun u s1 ⟨x, H1, I1, rx, a, dx, fs, ex, ea, l, q⟩ => ?_) (meth_tree hsup m apos pos X.env hl hst hn)
  subst ex
  obtain rfl : u = Value.ref a := rx
  refine getmeth_ok I1 ea c hm l ?_
  refine PySem.W.callWith_K (first := [.ref a]) (h₀ := X.base) I.ok.mod.kin hm.kp (thn (ha.run pos pins s1 σ H1 _ I1 q) fun us s2 ⟨vs, H2, I2, r, q2⟩ => ⟨I2.kIn, ?_⟩) (star_of (by simpa using h2.1)) (star_any h2.2)
  exact run_fnS (us := .ref a :: us) (vs := .ref a :: vs) F hr hb (hx σ) I2 (.cons rfl r) q2
theorem pe_methW0 (he : PE X o ta) (c : Cls X.K C) (hm : Meth X.K C m f) (F : FnOk X.prog X.w X.K X.mg X.base CX k f fd ps sp) (hr : Room k X.A) (hb : L2.Binds X.K fd ps []) (hx : ∀ σ, PassesAt CX X σ (E σ))
    (hsup : isSup o = false) (hl : (apos.endLine == pos.line) = true) : PE X (.Call (.Attribute o m apos) [] [] pos) (tMethS C m sp E ta tNil) := by
  refine ⟨fun pins s σ H Q I h => ?_⟩
  refine PySem.W.methodCall_KW (thn (he.run pins s σ H _ I h) fun u s1 ⟨x, H1, I1, rx, a, dx, fs, ex, ea, l, q⟩ => ?_) (meth_tree hsup m apos pos X.env hl rfl (by simp))
  subst ex
  obtain rfl : u = Value.ref a := rx
  refine getmeth_ok I1 ea c hm l ?_
  exact PySem.W.callWith_K0 (first := [.ref a]) I1.kIn hm.kp (run_fnS (us := [.ref a]) (vs := [.ref a]) F hr hb (hx σ) I1 (.cons rfl .nil) q)
/-! ### methods of built-in types -/
abbrev RM := V → List V → Hp → VK → Prop
def rPopA : RM := fun x vs H Q => rPop x vs H Q ∨ rPopAt x vs H Q
def rInsert : RM := fun x vs H Q => ∃ (l : Addr) (xs : List V) (i : Int) (y : V), x = .ref l ∧ vs = [.int i, y] ∧ H l = some (.lst xs) ∧ xs.length < sizeLine ∧ 0 ≤ i ∧ i < 2 ^ 63 ∧
    Q .non (upd H l (.lst (xs.take i.toNat ++ [y] ++ xs.drop i.toNat)))
/-! ### what is walked -/
/-- a list, a tuple, a text, a locked dict -/
def iSeq (K : PySem.W.Frag) (te : TE) : TI := fun σ H R => te σ H fun v H1 => (∃ a, v = .ref a ∧ (∃ xs, SqL K H1 a xs) ∧ R (Itl K a) H1) ∨ (∃ a, v = .ref a ∧ (∃ xs, SqT K H1 a xs) ∧ R (Itt K a) H1) ∨
  (∃ x, v = .str x ∧ R (Its x) H1) ∨ ∃ d o kvs, v = .ref d ∧ H1 d = some (.frz o (.dK kvs)) ∧ R (Itk d o kvs) H1
theorem pi_seq {tg : Expr} (he : PE X e te) : PI X tg e (iSeq X.K te) := by
  refine ⟨fun pins s σ H R I h => ?_⟩
  refine thn (he.run pins s σ H _ I h) fun v s1 ⟨x, H1, I1, r1, q1⟩ => ?_
  rcases q1 with ⟨a, ex, ⟨xs, hq⟩, q⟩ | ⟨a, ex, ⟨xs, hq⟩, q⟩ | ⟨y, ex, q⟩ | ⟨d, o, kvs, ex, hd, q⟩
  · subst ex
    obtain rfl : v = Value.ref a := r1
    obtain ⟨its, rv, p, hz⟩ := I1.list hq
    exact wpAny_pyIter_list p.isList (pi_one (tk := s1.toks) I1 _ (turn_list a _) ⟨_, Heap.get?_push_size _ rfl, rfl, rfl⟩ q)
  · subst ex
    obtain rfl : v = Value.ref a := r1
    obtain ⟨its, rv, p, hz⟩ := I1.tuple hq
    exact wpAny_pyIter_tuple (show s1.heap.IsTuple a its.toArray from p) (pi_one (tk := s1.toks) I1 _ (turn_tuple a _) ⟨_, Heap.get?_push_size _ rfl, rfl, rfl⟩ q)
  · subst ex
    obtain ⟨t, rfl⟩ := r1
    cases ha : y.cps.all (· < 128)
    · exact wpAny_pyIter_wide ha (pi_one (tk := s1.toks) I1 _ (turn_str _ y t "str_iterator" (.inr rfl)) ⟨_, Heap.get?_push_size _ rfl, rfl, rfl⟩ q)
    · exact wpAny_pyIter_ascii ha (pi_one (tk := s1.toks) I1 _ (turn_str _ y t "str_ascii_iterator" (.inl rfl)) ⟨_, Heap.get?_push_size _ rfl, rfl, rfl⟩ q)
  · subst ex
    obtain rfl : v = Value.ref d := r1
    obtain ⟨hs, hgd, hx, es, ep, vs, hdt, hsz, kv, hm⟩ := I1.frzK hd
    refine iter_keys hs hgd hx hdt (pi_one (tk := s1.toks) I1 _ (turn_keys _ hdt) ⟨_, Heap.get?_push_size _ rfl, rfl, ?_⟩ q)
    rw [hsz] <;> rfl
def rSl (K : PySem.W.Frag) : V → Option Int → Option Int → Hp → VK → Prop := fun x lo hi H Q => rSlL K x lo hi H Q ∨ rSlA K x lo hi H Q ∨ rSlS x lo hi H Q
theorem slr_all : SlR X (rSl X.K) := SlR.or sl_list (SlR.or sl_tupA sl_str)
end
end PL
set_option Elab.async false
set_option linter.all false
set_option maxRecDepth 100000
set_option maxHeartbeats 4000000
namespace PL
open PySem PySem.Spec PyProof.Rows L2

/-! ### the reading of the small language -/
abbrev T2 := TE × TT
def tru (K : PySem.W.Frag) (t : TE) : T2 := (t, fun σ H Q => t σ H fun x H' => ∃ k, TruV K x H' k ∧ Q k H')
def tAof : List T2 → TA
  | [] => tNil
  | t :: r => tCons t.1 (tAof r)
def tPair : List T2 → List T2 → List (TE × TE)
  | a :: r, b :: s => (a.1, b.1) :: tPair r s
  | _, _ => []
def isNon : Ex → Bool
  | .non => true
  | _ => false
def tPt (e : Ex) (t : T2) : TO := if isNon e = true then tNoPart else tPart t.1
def tTg (K : PySem.W.Frag) : Tg → TG
  | .one i => gName i
  | .tup ts => gTup K ts.length (tTgs K ts)
where tTgs (K : PySem.W.Frag) : List Tg → TGs
  | [] => gNil
  | t :: r => gCons (tTg K t) (tTgs K r)
def tI (K : PySem.W.Frag) : Sk → List T2 → TI
  | .seq, [a] => iSeq K a.1
  | .rng1, [a] => iRng1 (tAof [a])
  | .rng2, [a, b] => iRng2 (tAof [a, b])
  | .enum, [a] => iEnum K (tAof [a])
  | .zip, [a, b] => RZ.iZipA K (tAof [a, b])
  | _, _ => fun _ _ _ => False
def tCs : List T2 → TT
  | [] => tYes
  | t :: _ => t.2
def tMth (K : PySem.W.Frag) : Mt → TE → TA → TE
  | .append, o, t => tBM K "list" rAppend o t
  | .pop1, o, t => tBM K "list" rPopAt o t
  | .extend, o, t => tBM K "list" rExtend o t
  | .pop0, o, _ => tBM0 K "list" rPop o
  | _, _, _ => fun _ _ _ => False
def oneOf (a b : TE) : TE := fun σ H Q => a σ H Q ∨ b σ H Q
mutual
def t2 (K : PySem.W.Frag) (Φ : Nat → Sp) : Ex → WX → T2
  | .var i, _ => tru K (tVar i)
  | .int i, _ => tru K (tC (.int i))
  | .bl b, _ => tru K (tC (.bl b))
  | .non, _ => tru K (tC .non)
  | .str s, _ => tru K (tC (.str s))
  | .ty n, _ => tru K (tC (.ty n))
  | .cls x, _ => tru K (tC (.ref (He.ga K x)))
  | .bin op a b, W => tru K (tOp (rBin K op) (t2 K Φ a W).1 (t2 K Φ b W).1)
  | .neg a, W => tru K (tUn (rU fun i => .int (-i)) (t2 K Φ a W).1)
  | .not a, W => (tNotT K (t2 K Φ a W).1, tNot (t2 K Φ a W).2)
  | .and a b, W => (tAndT K (t2 K Φ a W).1 (t2 K Φ b W).1, tAnd (t2 K Φ a W).2 (t2 K Φ b W).2)
  | .or a b, W => (tOrT K (t2 K Φ a W).1 (t2 K Φ b W).1, tOr (t2 K Φ a W).2 (t2 K Φ b W).2)
  | .ite c a b, W => (tIf (t2 K Φ c W).2 (t2 K Φ a W).1 (t2 K Φ b W).1, fun σ H Q => (t2 K Φ c W).2 σ H fun k H1 => if k = true then (t2 K Φ a W).2 σ H1 Q else (t2 K Φ b W).2 σ H1 Q)
  | .cmp op a b, W => (tOp (rCmp K op) (t2 K Φ a W).1 (t2 K Φ b W).1, tTest (tOp (rCmp K op) (t2 K Φ a W).1 (t2 K Φ b W).1))
  | .chain o1 o2 a b c, W => (tChain (rCmp K o1) (rCmp K o2) (t2 K Φ a W).1 (t2 K Φ b W).1 (t2 K Φ c W).1, tTest (tChain (rCmp K o1) (rCmp K o2) (t2 K Φ a W).1 (t2 K Φ b W).1 (t2 K Φ c W).1))
  | .lst es, W => tru K (tLst (tAof (tL K Φ es W)))
  | .tup es, W => tru K (tTup (tAof (tL K Φ es W)))
  | .dct ks vs, W => tru K (if ks.isEmpty = true then tDNewK else tDisp (tPair (tL K Φ ks W) (tL K Φ vs W)))
  | .call f es, W => tru K (tCallW (Φ f) (WE W) (tAof (tL K Φ es W)))
  | .new c f es, W => tru K (tMakeS (He.ga K c) (Φ f) (WE W) (tAof (tL K Φ es W)))
  | .meth c m f o es, W => tru K (tMethS (He.ga K c) m (Φ f) (WE W) (t2 K Φ o W).1 (tAof (tL K Φ es W)))
  | .blt b es, W => tru K (tCB (rBlt K b) (tAof (tL K Φ es W)))
  | .mth m o es, W => tru K (tMth K m (t2 K Φ o W).1 (tAof (tL K Φ es W)))
  | .attr o f, W => tru K (tFld K (t2 K Φ o W).1 f)
  | .idx o i, W => tru K (oneOf (tOp (rIx K) (t2 K Φ o W).1 (t2 K Φ i W).1) (tDGet (t2 K Φ o W).1 (t2 K Φ i W).1))
  | .slc o lo hi, W => tru K (tSl (rSl K) (t2 K Φ o W).1 (tPt lo (t2 K Φ lo W)) (tPt hi (t2 K Φ hi W)))
  | .lc el tg k ss cs own, W => tru K (oneOf (tLc (tI K k (tL K Φ ss W)) (tTg K tg) (tCs (tL K Φ cs W0)) (t2 K Φ el W0).1 own) (tLockE (tLc (tI K k (tL K Φ ss W)) (tTg K tg) (tCs (tL K Φ cs W0)) (t2 K Φ el W0).1 own)))
  | .dc _ _ _ _ _ _ _, _ => tru K fun _ _ _ => False
def tL (K : PySem.W.Frag) (Φ : Nat → Sp) : List Ex → WX → List T2
  | [], _ => []
  | e :: r, W => t2 K Φ e W :: tL K Φ r W
end
def tRaise (K : PySem.W.Frag) (Φ : Nat → Sp) (x : Str) (f : Nat) (es : List Ex) (W : WX) : TS := fun _ σ H => tMkO (He.ga K x) (Φ f) [] (tAof (tL K Φ es W)) σ H fun cls d H' => W cls d σ H'
/-- the suite return [w, e.f] -/
def tSuite (K : PySem.W.Frag) (x : Str) (i : Nat) (w f : Str) (a : Addr) (cls : Value) (d : Option Addr) : TS := tRet (tLst (tCons (tC (.str w)) (tCons (tXf a cls d (He.ga K x) f (tVar i)) tNil)))
def eitherS (a b : TS) : TS := fun D σ H => a D σ H ∨ b D σ H
def rAug (K : PySem.W.Frag) : Operator → TIp
  | .Add => fun x y H Q => ipI (fun i j => i + j) x y H Q ∨ rStrAdd x y H Q
  | .Sub => ipI fun i j => i - j
  | _ => rNo
def rSet : TSet := fun o i v H Q => rSetL o i v H Q ∨ rSetD o i v H Q
mutual
def tS (K : PySem.W.Frag) (Φ : Nat → Sp) : Cm → WX → TS
  | .asg t e, W => tAsg (t2 K Φ e W).1 (tTg K t)
  | .par2 i j a b, W => tPar i j (tAof [t2 K Φ a W, t2 K Φ b W])
  | .par3 i j k a b c, W => tPar3 i j k (tAof [t2 K Φ a W, t2 K Φ b W, t2 K Φ c W])
  | .sub o i v, W => tAsg (t2 K Φ v W).1 (gSub (t2 K Φ o W).1 (t2 K Φ i W).1 rSet)
  | .fld o f v, W => eitherS (sFld K (t2 K Φ o W).1 (t2 K Φ v W).1 f) (tOst K f (t2 K Φ o W).1 (t2 K Φ v W).1)
  | .aug i op e, W => tAug i (t2 K Φ e W).1 (rAug K op)
  | .ex e, W => tDrop (t2 K Φ e W).1
  | .ret e, W => tRet (t2 K Φ e W).1
  | .retn, _ => tRetN
  | .ite c a b, W => tIfS (t2 K Φ c W).2 (tSs K Φ a W) (tSs K Φ b W)
  | .whl c b, W => tWhile (t2 K Φ c W).2 (tSs K Φ b W)
  | .fr t k ss b, W => eitherS (tFor (tI K k (tL K Φ ss W)) (tTg K t) (tSs K Φ b W)) (tLock (tFor (tI K k (tL K Φ ss W)) (tTg K t) (tSs K Φ b W)))
  | .raise x f es, W => tRaise K Φ x f es W
  | .tryAs b x i w f, W => fun D σ H => tSs K Φ b (wAs K (.ref (He.ga K x)) i (tSuite K x i w f) W D) D σ H
  | .pass, _ => tNext
  | .brk, _ => tBreak
  | .cont, _ => tCont
def tSs (K : PySem.W.Frag) (Φ : Nat → Sp) : List Cm → WX → TS
  | [], _ => tNext
  | s :: r, W => tSeq (tS K Φ s W) (tSs K Φ r W)
end
end PL
set_option Elab.async false
set_option linter.all false
set_option maxRecDepth 100000
set_option maxHeartbeats 4000000
namespace PL
open PySem PySem.Spec PyProof.Rows L2

/-- what the written part says of the text -/
structure GOk (p : Px) (P : Program) (w : World) (K : PySem.W.Frag) (mg : Str → Option Value) (base : Heap) (m : Nat) (Φ : Nat → Sp) : Prop where
  txt : ∀ x z, p.txts.lookup x = some z → ∃ t, mg x = some (.str z t)
  free : ∀ x, p.free.contains x = true → mg x = none
  gcl : ∀ x, (p.cls.contains x || p.exs.contains x) = true → mg x = some (.ref (He.ga K x))
  cl : ∀ x, p.cls.contains x = true → Cls K (He.ga K x)
  fn : ∀ (i : Nat) (d : He.DefD), p.ds[i]? = some d → ∃ fd ps, FnOk P w K mg base (L2.CX P w) m (He.fAd K d.at_) fd ps (Φ i) ∧ L2.Binds K fd ps [] ∧ PySem.W.keepIn K (.ref (He.fAd K d.at_)) = true
  fng : ∀ (i : Nat) (d : He.DefD) (x : Str), p.ds[i]? = some d → d.at_ = (x, none) → mg x = some (.ref (He.fAd K d.at_))
  mth : ∀ (i : Nat) (d : He.DefD) (c n : Str), p.ds[i]? = some d → d.at_ = (c, some n) → p.cls.contains c = true → Meth K (He.ga K c) n (He.fAd K d.at_)
  mkr : ∀ (i : Nat) (d : He.DefD) (c : Str), p.ds[i]? = some d → d.at_ = (c, some ("__init__" : Str)) → p.cls.contains c = true → Mk K (He.ga K c) (He.fAd K d.at_)
  ex : ∀ (i : Nat) (d : He.DefD) (x : Str), p.ds[i]? = some d → d.at_ = (x, some ("__init__" : Str)) → p.exs.contains x = true →
    OexC K (He.ga K x) ∧ PySem.W.findIn K (.ref (He.ga K x)) "__init__" = some (some (.ref (He.fAd K d.at_))) ∧ PySem.W.typeIn K (.ref (He.fAd K d.at_)) = some (.type "function")
  xf : ∀ (x : Str), p.exs.contains x = true → XfC K (He.ga K x)
  noat : ∀ (x f : Str), p.noat.contains (x, f) = true → PySem.W.findIn K (.ref (He.ga K x)) f = some none
structure XOk (S : Sx) (m : Nat) (Φ : Nat → Sp) (W : WX) (X : Cx) : Prop where
  hN : X.N = S.N
  nd : X.N.Nodup
  sc : ∀ x k, S.sc.names.lookup x = some k → X.env.scope.names.lookup x = some k ∨ (k = .free ∧ X.env.scope.names.lookup x = some .cell)
  calm : X.calm = true
  room : Room (m + 1) X.A
  tk : Takes X W
  g : GOk S.p X.prog X.w X.K X.mg X.base m Φ
  fnm : ∀ x, S.sc.names.lookup x = some .cell → X.fn x = true
  hp : PassesOwn (model X.prog X.w) X.A X.env X.xe

theorem fstr_ne {x y : Str} (h : (x == y) = false) : x ≠ y := by simpa using h
theorem ok_of {x : Str} (h : Sx.ok x = true) : (x == ("__debug__" : Str)) = false ∧ (x == ("__classdict__" : Str)) = false := by
  unfold Sx.ok at h
  simp only [Bool.and_eq_true, Bool.not_eq_true'] at h
  exact h
section
variable {S : Sx} {m : Nat} {Φ : Nat → Sp} {W : WX} {X : Cx} {x : Str} {i : Nat}
theorem XOk.slot (o : XOk S m Φ W X) (h : S.slot x = some i) : X.N[i]? = some x ∧ Vis X.env.scope x ∧ (x == ("__debug__" : Str)) = false ∧ (x == ("__classdict__" : Str)) = false := by
  unfold Sx.slot at h
  split at h
  · rename_i hc
    simp only [Bool.and_eq_true, Bool.or_eq_true, beq_iff_eq] at hc
    obtain ⟨hk, hok⟩ := hc
    refine ⟨by rw [o.hN]; exact ixOf_get h, ?_, ok_of hok⟩
    rcases hk with (hk | hk) | hk <;> rcases o.sc x _ hk with q | ⟨q1, q2⟩
    · exact .inl q
    · cases q1
    · exact .inr (.inl q)
    · cases q1
    · exact .inr (.inr q)
    · exact .inr (.inl q2)
  · cases h
theorem XOk.slotC (o : XOk S m Φ W X) (h : S.slotC x = some i) : X.N[i]? = some x ∧ Loc X.env.scope x ∧ (X.fn x = true ∨ X.env.scope.names.lookup x = some .local) := by
  unfold Sx.slotC at h
  split at h
  · rename_i hc
    simp only [Bool.and_eq_true, Bool.or_eq_true, beq_iff_eq] at hc
    obtain ⟨hk, hok⟩ := hc
    refine ⟨by rw [o.hN]; exact ixOf_get h, ?_, ?_⟩
    · rcases hk with hk | hk <;> rcases o.sc x _ hk with q | ⟨q1, q2⟩
      · exact .inl q
      · cases q1
      · exact .inr q
      · cases q1
    · rcases hk with hk | hk
      · rcases o.sc x _ hk with q | ⟨q1, q2⟩
        · exact .inr q
        · cases q1
      · exact .inl (o.fnm x hk)
  · cases h
theorem XOk.slotW (o : XOk S m Φ W X) (h : S.slotW x = some i) : X.N[i]? = some x ∧ X.env.scope.names.lookup x = some .local := by
  unfold Sx.slotW at h
  split at h
  · rename_i hc
    simp only [Bool.and_eq_true, beq_iff_eq] at hc
    obtain ⟨hk, hok⟩ := hc
    refine ⟨by rw [o.hN]; exact ixOf_get h, ?_⟩
    rcases o.sc x _ hk with q | ⟨q1, q2⟩
    · exact q
    · cases q1
  · cases h
theorem slotW_ok (h : S.slotW x = some i) : (x == ("__debug__" : Str)) = false ∧ (x == ("__classdict__" : Str)) = false := by
  unfold Sx.slotW at h
  split at h
  · rename_i hc
    simp only [Bool.and_eq_true, beq_iff_eq] at hc
    exact ok_of hc.2
  · cases h
theorem XOk.gl (o : XOk S m Φ W X) (h : S.gl x = true) : Gl X x ∧ (x == ("__debug__" : Str)) = false ∧ x ≠ "__name__" := by
  unfold Sx.gl at h
  simp only [Bool.and_eq_true, beq_iff_eq, Bool.not_eq_true'] at h
  obtain ⟨⟨h1, h2⟩, h3⟩ := h
  refine ⟨?_, h2, fstr_ne h3⟩
  rcases o.sc x _ h1 with q | ⟨q1, q2⟩
  · exact q
  · cases q1
theorem XOk.hu (o : XOk S m Φ W X) : X.A.units + 65 < cLine := by
  have := o.room.un
  omega
/-- the block of a comprehension -/
theorem XOk.blk (o : XOk S m Φ W X) (s : Shared) (H : Hp) (scope : Scope) (C : Addr) (cl : List (Str × Addr)) (fp : List Addr) : XOk { S with sc := scope } m Φ W0 (X.blk s H scope (compEnvC scope cl C X.env) fp) where
  hN := o.hN
  nd := o.nd
  sc := fun y k h => by
    have gen : ∀ l : List (Str × NameKind), l.lookup y = some k →
        (l.map fun (n, k) => if (k == NameKind.free && X.env.scope.kind == .function && X.env.kindOf n == some .cell) then (n, NameKind.cell) else (n, k)).lookup y = some k ∨
        (k = .free ∧ (l.map fun (n, k) => if (k == NameKind.free && X.env.scope.kind == .function && X.env.kindOf n == some .cell) then (n, NameKind.cell) else (n, k)).lookup y = some .cell) := by
      intro l
      induction l with
      | nil => intro h; cases h
      | cons p r ih =>
        obtain ⟨n, q⟩ := p
        intro h
        by_cases e : (y == n) = true
        · have hq : q = k := by
            rw [List.lookup_cons, e] at h
            exact Option.some.inj h
          subst hq
          by_cases c : (q == NameKind.free && X.env.scope.kind == .function && X.env.kindOf n == some .cell) = true
          · right
            have hf : q = .free := by
              simp only [Bool.and_eq_true, beq_iff_eq] at c
              exact c.1.1
            refine ⟨hf, ?_⟩
            simp only [List.map_cons]
            rw [if_pos c, List.lookup_cons, e]
          · left
            simp only [List.map_cons]
            rw [if_neg c, List.lookup_cons, e]
        · have e' : (y == n) = false := by simpa using e
          have h' : r.lookup y = some k := by
            rw [List.lookup_cons, e'] at h
            exact h
          simp only [List.map_cons]
          by_cases c : (q == NameKind.free && X.env.scope.kind == .function && X.env.kindOf n == some .cell) = true
          · rw [if_pos c, List.lookup_cons, e']
            exact ih h'
          · rw [if_neg c, List.lookup_cons, e']
            exact ih h'
    exact gen scope.names h
  calm := o.calm
  room := o.room
  tk := takes0
  g := o.g
  fnm := fun y h => by
    show (scope.names.lookup y == some .cell) = true
    have h' : scope.names.lookup y = some .cell := h
    rw [h'] <;> rfl
  hp := PassesOwn.never
end
end PL
set_option Elab.async false
set_option linter.all false
set_option maxRecDepth 100000
set_option maxHeartbeats 4000000
namespace PL
open PySem PySem.Spec PyProof.Rows L2

def fine : Expr → Bool
  | .Starred _ _ => false
  | .Set _ _ _ => false
  | .Slice _ _ _ _ => false
  | _ => true
theorem fine_of {S : Sx} {n : Nat} {e : Expr} {x : Ex} (h : trE S n e = some x) : fine e = true := by
  cases n with
  | zero => cases h
  | succ n => cases e <;> first | rfl | cases h
theorem fine_star {e : Expr} (h : fine e = true) : isStar e = false := by
  cases e <;> first | rfl | cases h
theorem fine_set {e : Expr} (h : fine e = true) (env : Env) (v : Value) : foldedSetIterable e env v = pure v := by
  cases e <;> first | rfl | cases h
theorem fine_ix {e : Expr} (h : fine e = true) : PlainIx e := by
  cases e <;> first | (intro o i; rfl) | cases h
section
variable {S : Sx} {m n : Nat} {Φ : Nat → Sp} {W : WX} {X : Cx} {e tg it : Expr} {es : List Expr} {x : Ex} {xs : List Ex} {k : Sk}
def Snd (X : Cx) (Φ : Nat → Sp) (W : WX) (S : Sx) (n : Nat) : Prop := ∀ (e : Expr) (x : Ex), trE S n e = some x → PE X e (t2 X.K Φ x W).1 ∧ PT X e (t2 X.K Φ x W).2
theorem snd_A (ih : Snd X Φ W S n) : ∀ {es : List Expr} {xs : List Ex}, mapO (trE S n) es = some xs → PA X es (tAof (tL X.K Φ xs W)) ∧ es.all (fun e => !isStar e) = true ∧ xs.length = es.length
  | [], xs, h => by
    have e := mapO_nil h
    subst e
    exact ⟨pa_nil, rfl, rfl⟩
  | e :: es, xs, h => by
    obtain ⟨b, bs, rfl, h1, h2⟩ := mapO_cons h
    obtain ⟨r1, r2, r3⟩ := snd_A ih h2
    have fs := fine_star (fine_of h1)
    refine ⟨pa_cons (ih e b h1).1 r1 (star_of fs), ?_, by simp [r3]⟩
    show ((!isStar e) && es.all fun e => !isStar e) = true
    rw [fs, r2] <;> rfl
theorem snd_P {pos : Pos} (ih : Snd X Φ W S n) : ∀ {ks : List (Option Expr)} {vs : List Expr} {as bs : List Ex}, ks.all (·.isSome) = true → ks.length = vs.length → mapO (trE S n) (ks.filterMap id) = some as → mapO (trE S n) vs = some bs →
    PPs X pos ks vs (tPair (tL X.K Φ as W) (tL X.K Φ bs W))
  | [], [], as, bs, _, _, h1, h2 => by
    have e1 := mapO_nil h1
    have e2 := mapO_nil h2
    subst e1 e2
    exact pps_nil
  | [], _ :: _, _, _, _, hl, _, _ => by cases hl
  | _ :: _, [], _, _, _, hl, _, _ => by cases hl
  | k :: ks, v :: vs, as, bs, ha, hl, h1, h2 => by
    obtain ⟨a1, a2⟩ := Bool.and_eq_true_iff.mp (show (k.isSome && ks.all (·.isSome)) = true from ha)
    cases k with
    | none => cases a1
    | some k =>
      obtain ⟨a, ar, rfl, q1, q2⟩ := mapO_cons (show mapO (trE S n) (k :: ks.filterMap id) = some as from h1)
      obtain ⟨b, br, rfl, q3, q4⟩ := mapO_cons h2
      exact pps_cons (ih _ _ q1).1 (ih _ _ q3).1 (snd_P ih a2 (by simpa using hl) q2 q4)
theorem len1 {α : Type} {l : List α} (h : l.length = 1) : ∃ a, l = [a] := match l, h with
  | [a], _ => ⟨a, rfl⟩
theorem src_seq (ih : Snd X Φ W S n) {k : Sk} {ss : List Ex} (h : ((trE S n it).map fun e => (Sk.seq, [e])) = some (k, ss)) : PI X tg it (tI X.K k (tL X.K Φ ss W)) ∧ ∀ v, foldedSetIterable it X.env v = pure v := by
  simp only [Option.map_eq_some_iff, Prod.mk.injEq] at h
  obtain ⟨a, h1, rfl, rfl⟩ := h
  exact ⟨pi_seq (ih _ _ h1).1, fine_set (fine_of h1) X.env⟩
theorem src_ok (o : XOk S m Φ W X) (ih : Snd X Φ W S n) {k : Sk} {ss : List Ex} (h : trSrc S (trE S n) tg it = some (k, ss)) : PI X tg it (tI X.K k (tL X.K Φ ss W)) ∧ ∀ v, foldedSetIterable it X.env v = pure v := by
  unfold trSrc at h
  split at h
  · rename_i y yp args pos
    split at h
    · rename_i hb
      obtain ⟨hb1, hb2⟩ := Bool.and_eq_true_iff.mp (show (S.gl y && S.p.free.contains y) = true from hb)
      have hg := (o.gl hb1).1
      have hm := o.g.free y hb2
      split at h
      · rename_i hr
        have hy : y = "range" := by simpa using hr
        subst hy
        split at h
        · simp only [Option.map_eq_some_iff, Prod.mk.injEq] at h
          obtain ⟨a, h1, rfl, rfl⟩ := h
          exact ⟨pi_range1 hg hm (pa_cons (ih _ _ h1).1 pa_nil (star_of (fine_star (fine_of h1)))) (star_of (fine_star (fine_of h1))), fun v => rfl⟩
        · simp only [Option.bind_eq_some_iff, Option.map_eq_some_iff, Prod.mk.injEq] at h
          obtain ⟨a, h1, b, h2, rfl, rfl⟩ := h
          have s1 := fine_star (fine_of h1)
          have s2 := fine_star (fine_of h2)
          exact ⟨pi_range2 hg hm (pa_cons (ih _ _ h1).1 (pa_cons (ih _ _ h2).1 pa_nil (star_of s2)) (star_of s1)) (by rw [star_of s1, star_of s2] <;> rfl) (star_of s2), fun v => rfl⟩
        · cases h
      · split at h
        · rename_i hr
          have hy : y = "enumerate" := by simpa using hr
          subst hy
          split at h
          · simp only [Option.map_eq_some_iff, Prod.mk.injEq] at h
            obtain ⟨a, h1, rfl, rfl⟩ := h
            exact ⟨pi_enum hg hm (pa_cons (ih _ _ h1).1 pa_nil (star_of (fine_star (fine_of h1)))) (star_of (fine_star (fine_of h1))), fun v => rfl⟩
          · cases h
        · split at h
          · rename_i hr
            have hy : y = "zip" := by simpa using hr
            subst hy
            split at h
            · simp only [Option.bind_eq_some_iff, Option.map_eq_some_iff, Prod.mk.injEq] at h
              obtain ⟨a, h1, b, h2, rfl, rfl⟩ := h
              have s1 := fine_star (fine_of h1)
              have s2 := fine_star (fine_of h2)
              exact ⟨RZ.pi_zipA hg hm (pa_cons (ih _ _ h1).1 (pa_cons (ih _ _ h2).1 pa_nil (star_of s2)) (star_of s1)) (star_of s1) (by rw [star_of s2] <;> rfl), fun v => rfl⟩
            · cases h
          · exact src_seq ih h
    · exact src_seq ih h
  · exact src_seq ih h
end
end PL
set_option Elab.async false
set_option linter.all false
set_option maxRecDepth 100000
set_option maxHeartbeats 8000000
namespace PL
open PySem PySem.Spec PyProof.Rows L2
section
variable {S : Sx} {m : Nat} {Φ : Nat → Sp} {W : WX} {X : Cx}
theorem ae_cons {env : Env} {e : Expr} {es : List Expr} (h : isStar e = false) : assignEach (e :: es) env = (false, assign e env) :: assignEach es env := by
  cases e <;> first | rfl | cases h
theorem tgs_star {n : Nat} : ∀ {es : List Expr} {ts : List Tg}, mapO (trTg S n) es = some ts → es.all (fun e => !isStar e) = true
  | [], _, _ => rfl
  | e :: es, ts, h => by
    obtain ⟨b, bs, rfl, h1, h2⟩ := mapO_cons h
    have fs : isStar e = false := by
      cases n with
      | zero => cases h1
      | succ n => cases e <;> first | rfl | cases h1
    show ((!isStar e) && es.all fun e => !isStar e) = true
    rw [fs, tgs_star h2] <;> rfl
theorem ae_len {env : Env} : ∀ {es : List Expr}, es.all (fun e => !isStar e) = true → (assignEach es env).length = es.length ∧ (assignEach es env).findIdx? (·.1) = none
  | [], _ => ⟨rfl, rfl⟩
  | e :: es, h => by
    obtain ⟨h1, h2⟩ := Bool.and_eq_true_iff.mp (show ((!isStar e) && es.all fun e => !isStar e) = true from h)
    obtain ⟨l1, l2⟩ := ae_len (env := env) h2
    rw [ae_cons (by simpa using h1)]
    refine ⟨by simp [l1], ?_⟩
    rw [List.findIdx?_cons]
    simp [l2]
theorem tg_ok (o : XOk S m Φ W X) : ∀ (n : Nat) {e : Expr} {t : Tg}, trTg S n e = some t → PG X e (tTg X.K t)
  | 0, _, _, h => by cases h
  | n + 1, e, t, h => by
    unfold trTg at h
    split at h
    · simp only [Option.map_eq_some_iff] at h
      obtain ⟨i, h1, rfl⟩ := h
      obtain ⟨a, b, c⟩ := o.slotC h1
      unfold tTg
      exact pg_name o.nd a b c
    · rename_i es k p
      simp only [Option.map_eq_some_iff] at h
      obtain ⟨ts, h1, rfl⟩ := h
      have st := tgs_star h1
      have gen : ∀ {es : List Expr} {ts : List Tg}, mapO (trTg S n) es = some ts → PGs X es (tTg.tTgs X.K ts) ∧ es.length = ts.length := by
        intro es
        induction es with
        | nil =>
          intro ts h
          have e := mapO_nil h
          subst e
          exact ⟨by unfold tTg.tTgs; exact pgs_nil, rfl⟩
        | cons e es ih =>
          intro ts h
          obtain ⟨b, bs, rfl, h1, h2⟩ := mapO_cons h
          obtain ⟨r1, r2⟩ := ih h2
          have s1 := (Bool.and_eq_true_iff.mp (show ((!isStar e) && es.all fun e => !isStar e) = true from tgs_star h)).1
          refine ⟨?_, by simp [r2]⟩
          unfold tTg.tTgs
          refine pgs_cons (tg_ok o n h1) r1 ?_
          rw [ae_cons (by simpa using s1)] <;> rfl
      obtain ⟨g1, g2⟩ := gen h1
      obtain ⟨l1, l2⟩ := ae_len (env := X.env) st
      unfold tTg
      exact pg_tup o.calm g1 (by rw [l1, g2]) l2
    · cases h
theorem pt_ite {c a b : Expr} {pos : Pos} {tc ta tb : TT} (hc : PT X c tc) (ha : PT X a ta) (hb : PT X b tb) : PT X (.IfExp c a b pos) (fun σ H Q => tc σ H fun k H1 => if k = true then ta σ H1 Q else tb σ H1 Q) := by
  refine ⟨fun pins s σ H Q I h => ?_⟩
  show wpAny _ _ (do if ← isTrue c X.env (eval c X.env) then isTrue a X.env (eval a X.env) else isTrue b X.env (eval b X.env)) _ _ s
  refine wpAny_bind (thn (hc.run pins s σ H _ I h) fun d s1 ⟨H1, I1, q1⟩ => ?_)
  cases d with
  | true => exact ha.run pins s1 σ H1 Q I1 q1
  | false => exact hb.run pins s1 σ H1 Q I1 q1
theorem pe_no {e : Expr} : PE X e (fun _ _ _ => False) := ⟨fun _ _ _ _ _ _ h => h.elim⟩
theorem pe_oneOf {e : Expr} {a b : TE} (ha : PE X e a) (hb : PE X e b) : PE X e (oneOf a b) := ⟨fun pins s σ H Q I h => h.elim (ha.run pins s σ H Q I) (hb.run pins s σ H Q I)⟩
theorem pt_of_tru {e : Expr} {t : TE} (h : PE X e t) (he : ∀ whole, isTrue e X.env whole = (do let v ← whole; standAt e.pos; holding [v] (truthy v))) : PE X e (tru X.K t).1 ∧ PT X e (tru X.K t).2 := ⟨h, pt_truth h he⟩
/-- a call of a name, whatever its arguments -/
theorem pe_callA {CX : CXT} {k : Nat} {f : Addr} {fd : FuncData} {ps : List Str} {sp : Sp} {E : L2.St → XK} {x : Str} {p pos : Pos} {es : List Expr} {ts : List T2} (F : FnOk X.prog X.w X.K X.mg X.base CX k f fd ps sp) (hr : Room k X.A) (hg : Gl X x) (hm : X.mg x = some (.ref f)) (hk : PySem.W.keepIn X.K (.ref f) = true)
    (hb : L2.Binds X.K fd ps []) (hx : ∀ σ, PassesAt CX X σ (E σ)) (ha : PA X es (tAof ts)) (hl : ts.length = es.length) (hdb : (x == ("__debug__" : Str)) = false) (hst : es.all (fun e => !isStar e) = true) : PE X (.Call (.Name x p) es [] pos) (tCallW sp E (tAof ts)) := by
  cases es with
  | cons e es => exact pe_callW F hr hg hm hk hb hx ha hdb hst
  | nil =>
    have e : ts = [] := List.length_eq_zero_iff.mp hl
    subst e
    exact pe_callW0 F hr hg hm hk hb hx hdb
theorem pe_makeA {CX : CXT} {k : Nat} {f C : Addr} {fd : FuncData} {ps : List Str} {sp : Sp} {E : L2.St → XK} {x : Str} {p pos : Pos} {es : List Expr} {ts : List T2} (M : Mk X.K C f) (F : FnOk X.prog X.w X.K X.mg X.base CX k f fd ps sp) (hr : Room (k + 1) X.A) (hg : Gl X x) (hm : X.mg x = some (.ref C))
    (hb : L2.Binds X.K fd ps []) (hx : ∀ σ, PassesAt CX X σ (E σ)) (ha : PA X es (tAof ts)) (hl : ts.length = es.length) (hdb : (x == ("__debug__" : Str)) = false) (hst : es.all (fun e => !isStar e) = true) : PE X (.Call (.Name x p) es [] pos) (tMakeS C sp E (tAof ts)) := by
  cases es with
  | cons e es => exact pe_makeS M F hr hg hm hb hx ha hdb hst
  | nil =>
    have e : ts = [] := List.length_eq_zero_iff.mp hl
    subst e
    exact pe_makeS0 M F hr hg hm hb hx hdb
theorem pe_methA {CX : CXT} {k : Nat} {f C : Addr} {fd : FuncData} {ps : List Str} {sp : Sp} {E : L2.St → XK} {mm : Str} {apos pos : Pos} {o : Expr} {ta : TE} {es : List Expr} {ts : List T2} (he : PE X o ta) (c : Cls X.K C) (hm : Meth X.K C mm f) (F : FnOk X.prog X.w X.K X.mg X.base CX k f fd ps sp) (hr : Room k X.A)
    (hb : L2.Binds X.K fd ps []) (hx : ∀ σ, PassesAt CX X σ (E σ)) (ha : PA X es (tAof ts)) (hlen : ts.length = es.length) (hsup : isSup o = false) (hl : (apos.endLine == pos.line) = true) (hst : es.all (fun e => !isStar e) = true) (hn : es.length < 30) :
    PE X (.Call (.Attribute o mm apos) es [] pos) (tMethS C mm sp E ta (tAof ts)) := by
  cases es with
  | cons e es => exact pe_methW he c hm F hr hb hx ha hsup hl hst hn
  | nil =>
    have e : ts = [] := List.length_eq_zero_iff.mp hlen
    subst e
    exact pe_methW0 he c hm F hr hb hx hsup hl
theorem pe_bltA {x : Str} {p pos : Pos} {es : List Expr} {ts : List T2} (hc : X.calm = true) (hu : X.A.units + 65 < cLine) (b : Bl) (hg : Gl X x) (hm : X.mg x = none) (hv : bootBuiltins x = some b.val) (ha : PA X es (tAof ts)) (hne : es ≠ []) (hn : x ≠ "__name__") (hdb : (x == ("__debug__" : Str)) = false) (hst : es.all (fun e => !isStar e) = true) :
    PE X (.Call (.Name x p) es [] pos) (tCB (rBlt X.K b) (tAof ts)) := by
  cases es with
  | nil => exact absurd rfl hne
  | cons e es =>
    have h2 := (Bool.and_eq_true_iff.mp (show ((!isStar e) && es.all fun e => !isStar e) = true from hst))
    have s1 := star_of (env := X.env) (es := es) (show isStar e = false by simpa using h2.1)
    have s2 := star_any (env := X.env) (pos := pos) h2.2
    have hb := callr_blt hc b
    generalize hbv : b.val = bv at hv hb
    cases b <;> (cases hbv; first | exact pe_callB hb hg hm hv ha hn hdb s1 s2 | exact pe_callTy hb hg hm hv ha hn hdb s1 s2)
end
end PL
set_option Elab.async false
set_option linter.all false
set_option maxRecDepth 100000
set_option maxHeartbeats 8000000
namespace PL
open PySem PySem.Spec PyProof.Rows L2
section
variable {S : Sx} {m : Nat} {Φ : Nat → Sp} {W : WX} {X : Cx}
theorem few_of {env : Env} {pos : Pos} {e : Expr} {es : List Expr} (hs : (e :: es).all (fun e => !isStar e) = true) (hn : (e :: es).length < 30) :
    ((backTo pos (starEach (e :: es) env)).all (fun x => !x.1) && (backToKw pos (keywordEach [] env)).all (fun x => x.1.isSome)
      && decide ((e :: es).length + ([] : List Keyword).length + (if ([] : List Keyword).isEmpty then 0 else 1) < 30)) = true := by
  rw [star_all hs]
  show (true && true && decide ((e :: es).length + 0 + 0 < 30)) = true
  simpa using hn
theorem pe_bmA {name : Str} {T id : String} {r : RM} {apos cpos : Pos} {o e : Expr} {es : List Expr} {to : TE} {t : TA} (pa : PlainAttrs T) (slot : Slot T name id) (hty : typeOf (.builtin id) = pure (.type "method_descriptor")) (hm : MtR X id r) (ho : PE X o to) (ha : PA X (e :: es) t)
    (hsup : isSup o = false) (hl : (apos.endLine == cpos.line) = true) (hst : (e :: es).all (fun e => !isStar e) = true) (hn : (e :: es).length < 30) : PE X (.Call (.Attribute o name apos) (e :: es) [] cpos) (tBM X.K T r to t) := by
  have h2 := (Bool.and_eq_true_iff.mp (show ((!isStar e) && es.all fun e => !isStar e) = true from hst))
  exact pe_bm pa slot hty hm ho ha (base_of hsup _ _) (few_of hst hn) hl (star_of (by simpa using h2.1)) (star_any h2.2)
theorem mt_of {name : Str} {k : Nat} {mm : Mt} (h : Mt.of name k = some mm) : (mm = .pop0 ∧ k = 0 ∧ name = "pop") ∨ (mm = .append ∧ k = 1 ∧ name = "append") ∨ (mm = .pop1 ∧ k = 1 ∧ name = "pop") ∨ (mm = .extend ∧ k = 1 ∧ name = "extend") := by
  unfold Mt.of at h
  split at h
  · rename_i hk
    split at h
    · rename_i hn
      cases h
      exact .inl ⟨rfl, by simpa using hk, by simpa using hn⟩
    · cases h
  · split at h
    · rename_i hk
      have hk1 : k = 1 := by simpa using hk
      split at h
      · rename_i hn
        cases h
        exact .inr (.inl ⟨rfl, hk1, by simpa using hn⟩)
      · split at h
        · rename_i hn
          cases h
          exact .inr (.inr (.inl ⟨rfl, hk1, by simpa using hn⟩))
        · split at h
          · rename_i hn
            cases h
            exact .inr (.inr (.inr ⟨rfl, hk1, by simpa using hn⟩))
          · cases h
    · cases h
theorem pe_mthA {name : Str} {mm : Mt} {apos cpos : Pos} {o : Expr} {es : List Expr} {to : TE} {ts : List T2} (h : Mt.of name es.length = some mm) (ho : PE X o to) (ha : PA X es (tAof ts)) (hlen : ts.length = es.length) (hsup : isSup o = false) (hl : (apos.endLine == cpos.line) = true)
    (hst : es.all (fun e => !isStar e) = true) : PE X (.Call (.Attribute o name apos) es [] cpos) (tMth X.K mm to (tAof ts)) := by
  rcases mt_of h with ⟨rfl, hk, rfl⟩ | ⟨rfl, hk, rfl⟩ | ⟨rfl, hk, rfl⟩ | ⟨rfl, hk, rfl⟩
  · have e : es = [] := List.length_eq_zero_iff.mp hk
    subst e
    exact pe_bm0 PySem.F.plainAttrs_list PySem.F.slot_list_pop PySem.F.type_list_pop mt_pop ho (base_of hsup _ _) hl
  · obtain ⟨e, rfl⟩ := len1 hk
    exact pe_bmA PySem.F.plainAttrs_list PySem.F.slot_list_append PySem.F.type_list_append mt_append ho ha hsup hl hst (by simp)
  · obtain ⟨e, rfl⟩ := len1 hk
    exact pe_bmA PySem.F.plainAttrs_list PySem.F.slot_list_pop PySem.F.type_list_pop mt_popAt ho ha hsup hl hst (by simp)
  · obtain ⟨e, rfl⟩ := len1 hk
    exact pe_bmA PySem.F.plainAttrs_list PySem.F.slot_list_extend PySem.F.type_list_extend mt_extend ho ha hsup hl hst (by simp)
theorem if_some {α : Type} {c : Bool} {a b : α} {r : Option α} (h : (if c = true then some a else r) = some b) : (c = true ∧ a = b) ∨ r = some b := by
  cases c with
  | true =>
    rw [if_pos rfl] at h
    exact .inl ⟨rfl, Option.some.inj h⟩
  | false => exact .inr h
theorem bl_of {x : Str} {k : Nat} {b : Bl} (h : Bl.of x k = some b) : x = b.name ∧ 0 < k := by
  unfold Bl.of at h
  by_cases h1 : (k == 1) = true
  · rw [if_pos h1] at h
    have hk1 : k = 1 := by simpa using h1
    refine ⟨?_, by omega⟩
    iterate 14
      (rcases if_some h with ⟨hn, e⟩ | h
       · cases e
         exact beq_iff_eq.mp hn)
    cases h
  · rw [if_neg h1] at h
    by_cases h2 : (k == 2) = true
    · rw [if_pos h2] at h
      have hk1 : k = 2 := by simpa using h2
      refine ⟨?_, by omega⟩
      iterate 3
        (rcases if_some h with ⟨hn, e⟩ | h
         · cases e
           exact beq_iff_eq.mp hn)
      cases h
    · rw [if_neg h2] at h
      cases h
end
end PL
set_option Elab.async false
set_option linter.all false
set_option maxRecDepth 100000
set_option maxHeartbeats 16000000
namespace PL
open PySem PySem.Spec PyProof.Rows L2
section
variable {m : Nat} {Φ : Nat → Sp}
theorem tL_len {K : PySem.W.Frag} {W : WX} : ∀ xs : List Ex, (tL K Φ xs W).length = xs.length
  | [] => by unfold tL; rfl
  | x :: xs => by
    unfold tL
    simp [tL_len xs]
theorem part_ok {S : Sx} {n : Nat} {W : WX} {X : Cx} (ih : Snd X Φ W S n) {lo : Option Expr} {x : Ex} (h : trPart (trE S n) lo = some x) : PO X lo (tPt x (t2 X.K Φ x W)) := by
  cases lo with
  | none =>
    cases h
    exact po_none
  | some e =>
    unfold trPart at h
    simp only [Option.bind_eq_some_iff] at h
    obtain ⟨a, h1, h2⟩ := h
    have hx : a = x ∧ isNon x = false := by
      cases a <;> first | (cases h2; exact ⟨rfl, rfl⟩) | cases h2
    obtain ⟨rfl, hn⟩ := hx
    unfold tPt
    rw [if_neg (by rw [hn]; exact Bool.false_ne_true)]
    exact po_some (ih _ _ h1).1
theorem meth_of {S : Sx} {mm c : Str} {f : Nat} (h : S.methOf mm = some (c, f)) : ∃ d, S.p.ds[f]? = some d ∧ d.at_ = (c, some mm) ∧ S.p.cls.contains c = true := by
  unfold Sx.methOf at h
  split at h
  · rename_i r hr
    cases h
    have hm : (c, f) ∈ S.p.cls.filterMap fun c => (S.fn c (some mm)).map fun i => (c, i) := by rw [hr]; exact List.mem_cons_self
    simp only [List.mem_filterMap, Option.map_eq_some_iff, Prod.mk.injEq] at hm
    obtain ⟨c', h1, i, h2, rfl, rfl⟩ := hm
    obtain ⟨d, h3, h4⟩ := ixD_get h2
    exact ⟨d, h3, h4, by simpa using h1⟩
  · cases h
theorem blk_of {S : Sx} {W : WX} {X : Cx} (o : XOk S m Φ W X) {scope : Scope} {own : List (Str × Nat)} (h : BlkOk S.N S.sc scope own) : BlkOk X.N X.env.scope scope own where
  kind := h.kind
  uniq := h.uniq
  ix := fun p hp => by rw [o.hN]; exact h.ix p hp
  free := fun y hy e => by
    rcases h.free y hy e with q | q
    · rcases o.sc _ _ q with z | ⟨z, _⟩
      · exact .inl z
      · cases z
    · rcases o.sc _ _ q with z | ⟨_, z⟩
      · exact .inr z
      · exact .inl z
  own := fun y hy e => by rw [o.hN]; exact h.own y hy e
theorem ifs_ok {S : Sx} {n : Nat} {W : WX} {X : Cx} (ih : Snd X Φ W S n) {ifs : List Expr} {cs : List Ex} (h : trIfs (trE S n) ifs = some cs) : PTs X ifs (tCs (tL X.K Φ cs W)) := by
  unfold trIfs at h
  split at h
  · cases h
    unfold tL tCs
    exact pts_nil
  · simp only [Option.map_eq_some_iff] at h
    obtain ⟨c, h1, rfl⟩ := h
    unfold tL tCs
    exact pts_one (ih _ _ h1).2
  · cases h
theorem snd_E : ∀ (n : Nat) {S : Sx} {X : Cx} {W : WX} {e : Expr} {x : Ex}, XOk S m Φ W X → trE S n e = some x → PE X e (t2 X.K Φ x W).1 ∧ PT X e (t2 X.K Φ x W).2
  | 0, _, _, _, _, _, _, h => by cases h
  | n + 1, S, X, W, e, x, o, h => by
    have ih : Snd X Φ W S n := fun e x h => snd_E n o h
    have pass : ∀ σ, PassesAt (L2.CX X.prog X.w) X σ (WE W σ) := passAt o.tk
    have room : Room m X.A := o.room.mono (Nat.le_succ _)
    unfold trE at h
    split at h
    case h_1 => cases h; unfold t2; exact pt_of_tru pe_int fun _ => rfl
    case h_2 => cases h; unfold t2; exact pt_of_tru pe_bl fun _ => rfl
    case h_3 => cases h; unfold t2; exact pt_of_tru pe_non fun _ => rfl
    case h_4 => cases h; unfold t2; exact pt_of_tru pe_str fun _ => rfl
    case h_5 y p =>
      unfold trName at h
      split at h
      · rename_i i hi
        cases h
        obtain ⟨a, b, c, d⟩ := o.slot hi
        unfold t2
        exact pt_of_tru (pe_var a b c d) fun _ => rfl
      · split at h
        · rename_i hg
          obtain ⟨g1, g2, g3⟩ := o.gl hg
          split at h
          · rename_i z hz
            cases h
            obtain ⟨t, ht⟩ := o.g.txt _ _ hz
            unfold t2
            exact pt_of_tru (pe_glob (v := .str z) g1 ht ⟨t, rfl⟩ g2) fun _ => rfl
          · split at h
            · rename_i hc
              cases h
              unfold t2
              exact pt_of_tru (pe_glob (v := .ref (He.ga X.K y)) g1 (o.g.gcl _ hc) rfl g2) fun _ => rfl
            · split at h
              · rename_i hf
                split at h
                · rename_i nm hb
                  cases h
                  unfold t2
                  exact pt_of_tru (pe_bltn (v := .ty nm) g1 (o.g.free _ hf) hb rfl g3 g2) fun _ => rfl
                · cases h
              · cases h
        · cases h
    case h_6 a op b p =>
      simp only [Option.bind_eq_some_iff, Option.map_eq_some_iff] at h
      obtain ⟨xa, h1, xb, h2, rfl⟩ := h
      unfold t2
      exact pt_of_tru (pe_op (opr_bin op) (ih _ _ h1).1 (ih _ _ h2).1) fun _ => rfl
    case h_7 a p =>
      simp only [Option.map_eq_some_iff] at h
      obtain ⟨xa, h1, rfl⟩ := h
      unfold t2
      exact ⟨pe_notT (ih _ _ h1).1, pt_not (ih _ _ h1).2⟩
    case h_8 a p =>
      simp only [Option.map_eq_some_iff] at h
      obtain ⟨xa, h1, rfl⟩ := h
      unfold t2
      exact pt_of_tru (pe_un un_neg (ih _ _ h1).1) fun _ => rfl
    case h_9 op a p =>
      have q := ih _ _ h
      refine ⟨pe_one q.1, ?_⟩
      cases op with
      | And => exact (pw_and1 q.2).pt
      | Or => exact (pw_or1 q.2).pt
    case h_10 a b r p =>
      simp only [Option.bind_eq_some_iff, Option.map_eq_some_iff] at h
      obtain ⟨xa, h1, xb, h2, rfl⟩ := h
      have qa := ih _ _ h1
      have qb := ih _ _ h2
      unfold t2
      refine ⟨pe_andT qa.1 qb.1, (pw_and qa.2 ⟨fun whole pins s σ H Q I hw => ?_⟩).pt⟩
      exact qb.2.run pins s σ H Q I hw
    case h_11 a b r p =>
      simp only [Option.bind_eq_some_iff, Option.map_eq_some_iff] at h
      obtain ⟨xa, h1, xb, h2, rfl⟩ := h
      have qa := ih _ _ h1
      have qb := ih _ _ h2
      unfold t2
      refine ⟨pe_orT qa.1 qb.1, (pw_or qa.2 ⟨fun whole pins s σ H Q I hw => ?_⟩).pt⟩
      exact qb.2.run pins s σ H Q I hw
    case h_12 c a b p =>
      simp only [Option.bind_eq_some_iff, Option.map_eq_some_iff] at h
      obtain ⟨xc, h0, xa, h1, xb, h2, rfl⟩ := h
      unfold t2
      exact ⟨pe_ifExp (ih _ _ h0).2 (ih _ _ h1).1 (ih _ _ h2).1, pt_ite (ih _ _ h0).2 (ih _ _ h1).2 (ih _ _ h2).2⟩
    case h_13 a op b p =>
      split at h
      · rename_i hm
        have hm' : behindInMarks op b = false := by simpa [markOk] using hm
        simp only [Option.bind_eq_some_iff, Option.map_eq_some_iff] at h
        obtain ⟨xa, h1, xb, h2, rfl⟩ := h
        unfold t2
        exact ⟨pe_cmpR (opr_cmp op o.hu) (ih _ _ h1).1 (ih _ _ h2).1 hm', pt_cmpR (opr_cmp op o.hu) (ih _ _ h1).1 (ih _ _ h2).1 hm'⟩
      · cases h
    case h_14 a o1 o2 b c p =>
      split at h
      · rename_i hm
        have hm' : lastMarks [o1, o2] [b, c] = false := by simpa using hm
        simp only [Option.bind_eq_some_iff, Option.map_eq_some_iff] at h
        obtain ⟨xa, h1, xb, h2, xc, h3, rfl⟩ := h
        unfold t2
        exact ⟨pe_chain (opr_cmp o1 o.hu) (opr_cmp o2 o.hu) (ih _ _ h1).1 (ih _ _ h2).1 (ih _ _ h3).1 hm', pt_chain (opr_cmp o1 o.hu) (opr_cmp o2 o.hu) (ih _ _ h1).1 (ih _ _ h2).1 (ih _ _ h3).1 hm'⟩
      · cases h
    case h_15 es p =>
      simp only [Option.map_eq_some_iff] at h
      obtain ⟨xs, h1, rfl⟩ := h
      unfold t2
      exact pt_of_tru (pe_lst (snd_A ih h1).1) fun _ => rfl
    case h_16 es k p =>
      simp only [Option.map_eq_some_iff] at h
      obtain ⟨xs, h1, rfl⟩ := h
      unfold t2
      exact pt_of_tru (pe_tup (snd_A ih h1).1) fun _ => rfl
    case h_17 p =>
      cases h
      unfold t2
      exact pt_of_tru pe_dnewK fun _ => rfl
    case h_18 ks vs p hne =>
      split at h
      · rename_i hc
        simp only [Bool.and_eq_true, decide_eq_true_eq] at hc
        obtain ⟨⟨c1, c2⟩, c3⟩ := hc
        simp only [Option.bind_eq_some_iff, Option.map_eq_some_iff] at h
        obtain ⟨as, h1, bs, h2, rfl⟩ := h
        unfold t2
        have hk : ks ≠ [] := by
          intro e
          subst e
          have : vs = [] := List.length_eq_zero_iff.mp c2.symm
          subst this
          exact hne rfl rfl
        have ha : as.isEmpty = false := by
          cases ks with
          | nil => exact absurd rfl hk
          | cons k ks =>
            cases k with
            | none => simp at c1
            | some k =>
              obtain ⟨a, ar, rfl, _, _⟩ := mapO_cons (show mapO (trE S n) (k :: ks.filterMap id) = some as from h1)
              rfl
        rw [ha, if_neg Bool.false_ne_true]
        exact pt_of_tru (pe_disp (snd_P ih c1 c2 h1 h2) c1 c2 hk c3) fun _ => rfl
      · cases h
    case h_19 y yp args p =>
      split at h
      · rename_i hg
        obtain ⟨g1, g2, g3⟩ := o.gl hg
        split at h
        · rename_i hf
          split at h
          · rename_i b hb
            simp only [Option.map_eq_some_iff] at h
            obtain ⟨xs, h1, rfl⟩ := h
            obtain ⟨q1, q2, q3⟩ := snd_A ih h1
            obtain ⟨e1, e2⟩ := bl_of hb
            unfold t2
            exact pt_of_tru (pe_bltA o.calm o.hu b g1 (o.g.free _ hf) (by rw [e1]; exact b.boot) q1 (by intro z; rw [z] at e2; exact absurd e2 (by decide)) g3 g2 q2) fun _ => rfl
          · cases h
        · split at h
          · rename_i f hfn
            simp only [Option.map_eq_some_iff] at h
            obtain ⟨xs, h1, rfl⟩ := h
            obtain ⟨q1, q2, q3⟩ := snd_A ih h1
            obtain ⟨d, d1, d2⟩ := ixD_get hfn
            obtain ⟨fd, ps, F, B, kp⟩ := o.g.fn _ _ d1
            unfold t2
            exact pt_of_tru (pe_callA F room g1 (o.g.fng _ _ _ d1 d2) kp B pass q1 (by rw [tL_len, q3]) g2 q2) fun _ => rfl
          · split at h
            · rename_i hc
              split at h
              · rename_i f hfn
                simp only [Option.map_eq_some_iff] at h
                obtain ⟨xs, h1, rfl⟩ := h
                obtain ⟨q1, q2, q3⟩ := snd_A ih h1
                obtain ⟨d, d1, d2⟩ := ixD_get hfn
                obtain ⟨fd, ps, F, B, kp⟩ := o.g.fn _ _ d1
                unfold t2
                exact pt_of_tru (pe_makeA (o.g.mkr _ _ _ d1 d2 hc) F o.room g1 (o.g.gcl _ (by rw [hc] <;> rfl)) B pass q1 (by rw [tL_len, q3]) g2 q2) fun _ => rfl
              · cases h
            · cases h
      · cases h
    case h_20 ob mm ap args cp =>
      split at h
      · cases h
      · rename_i hs
        have hsup : isSup ob = false := by simpa using hs
        split at h
        · rename_i c f hmo
          split at h
          · rename_i hc
            simp only [Bool.and_eq_true, decide_eq_true_eq] at hc
            simp only [Option.bind_eq_some_iff, Option.map_eq_some_iff] at h
            obtain ⟨xo, h0, xs, h1, rfl⟩ := h
            obtain ⟨q1, q2, q3⟩ := snd_A ih h1
            obtain ⟨d, d1, d2, d3⟩ := meth_of hmo
            obtain ⟨fd, ps, F, B, kp⟩ := o.g.fn _ _ d1
            unfold t2
            exact pt_of_tru (pe_methA (ih _ _ h0).1 (o.g.cl _ d3) (o.g.mth _ _ _ _ d1 d2 d3) F room B pass q1 (by rw [tL_len, q3]) hsup hc.1 q2 hc.2) fun _ => rfl
          · cases h
        · split at h
          · rename_i k hmt
            split at h
            · rename_i hc
              simp only [Bool.and_eq_true, decide_eq_true_eq] at hc
              simp only [Option.bind_eq_some_iff, Option.map_eq_some_iff] at h
              obtain ⟨xo, h0, xs, h1, rfl⟩ := h
              obtain ⟨q1, q2, q3⟩ := snd_A ih h1
              unfold t2
              exact pt_of_tru (pe_mthA hmt (ih _ _ h0).1 q1 (by rw [tL_len, q3]) hsup hc.1 q2) fun _ => rfl
            · cases h
          · cases h
    case h_21 ob f p =>
      split at h
      · cases h
      · rename_i hs
        have hsup : isSup ob = false := by simpa using hs
        simp only [Option.map_eq_some_iff] at h
        obtain ⟨xo, h0, rfl⟩ := h
        unfold t2
        exact pt_of_tru (pe_fld (ih _ _ h0).1 (base_of hsup _ _)) fun _ => rfl
    case h_22 ob lo hi p2 p =>
      simp only [Option.bind_eq_some_iff, Option.map_eq_some_iff] at h
      obtain ⟨xo, h0, xl, h1, xh, h2, rfl⟩ := h
      unfold t2
      exact pt_of_tru (pe_slice slr_all (ih _ _ h0).1 (part_ok ih h1) (part_ok ih h2)) fun _ => rfl
    case h_23 ob i p hne =>
      simp only [Option.bind_eq_some_iff, Option.map_eq_some_iff] at h
      obtain ⟨xo, h0, xi, h1, rfl⟩ := h
      unfold t2
      exact pt_of_tru (pe_oneOf (pe_ix ix_seq (ih _ _ h0).1 (ih _ _ h1).1 (fine_ix (fine_of h1))) (pe_dget (by have := o.hu; omega) (ih _ _ h0).1 (ih _ _ h1).1 (fine_ix (fine_of h1)))) fun _ => rfl
    case h_24 elt tg iter ifs scope p =>
      split at h
      · rename_i hb
        simp only [Option.bind_eq_some_iff, Option.map_eq_some_iff] at h
        obtain ⟨⟨k, ss⟩, h1, t, h2, el, h3, cs, h4, rfl⟩ := h
        obtain ⟨i1, i2⟩ := src_ok o ih h1
        have ob := fun (s : Shared) (H : Hp) (C : Addr) (cl : List (Str × Addr)) (fp : List Addr) => o.blk s H scope C cl fp
        have q : PE X (.ListComp elt [⟨tg, iter, ifs, 0⟩] scope p) (tLc (tI X.K k (tL X.K Φ ss W)) (tTg X.K t) (tCs (tL X.K Φ cs W0)) (t2 X.K Φ el W0).1 ((ownOf S.N scope).map (·.2))) :=
          pe_lc o.calm o.nd i1 (blk_of o (blkOk_by hb)) (fun s H C cl fp => tg_ok (ob s H C cl fp) n h2) (fun s H C cl fp => ifs_ok (fun e x h => snd_E n (ob s H C cl fp) h) h4)
            (fun s H C cl fp => (snd_E n (ob s H C cl fp) h3).1) i2
        unfold t2
        exact pt_of_tru (pe_oneOf q (pe_lock q)) fun _ => rfl
      · cases h
    case h_25 => cases h
end
end PL
set_option Elab.async false
set_option linter.all false
set_option maxRecDepth 100000
set_option maxHeartbeats 16000000
namespace PL
open PySem PySem.Spec PyProof.Rows L2

/-! ### statements -/
def isTupE : Expr → Bool
  | .Tuple _ _ _ => true
  | _ => false
/-- a, b = x, y as the stores are run from the right -/
def parOk (S : Sx) (xs : List (Str × Pos)) (es : List Expr) : Bool :=
  xs.all (fun p => S.sc.names.lookup p.1 == some .local && Sx.ok p.1 && p.2.line == (xs.head?.map (·.2.line)).getD 0) && decide (xs.map (·.1)).Nodup && es.all (fun e => !isStar e) && !(es.all (foldedForSure 8)) && !(es.all (constantsAlone 8))
/-- the suite of an except clause: return [w, e.f] -/
def trSuite (n : Str) : List Stmt → Option (Str × Str)
  | [.Return (some (.List [.Constant (.str w) _ _, .Attribute (.Name x _) f _] _)) _] => if x == n then some (w, f) else none
  | _ => none
def trS (S : Sx) : Nat → Stmt → Option Cm
  | 0, _ => none
  | n + 1, s => match s with
    | .Assign [.Name x _] e _ => (S.slotC x).bind fun i => (trE S (n + 1) e).map fun e => .asg (.one i) e
    | .Assign [.Tuple [.Name x px, .Name y py] _ _] (.Tuple [a, b] _ _) _ =>
      if parOk S [(x, px), (y, py)] [a, b] then (S.slotW x).bind fun i => (S.slotW y).bind fun j => (trE S n a).bind fun a => (trE S n b).map fun b => .par2 i j a b else none
    | .Assign [.Tuple [.Name x px, .Name y py, .Name z pz] _ _] (.Tuple [a, b, c] _ _) _ =>
      if parOk S [(x, px), (y, py), (z, pz)] [a, b, c] then (S.slotW x).bind fun i => (S.slotW y).bind fun j => (S.slotW z).bind fun k => (trE S n a).bind fun a => (trE S n b).bind fun b => (trE S n c).map fun c => .par3 i j k a b c else none
    | .Assign [.Tuple ts k p] e _ => if isTupE e then none else (trTg S n (.Tuple ts k p)).bind fun t => (trE S n e).map fun e => .asg t e
    | .Assign [.Subscript o i _] v _ => (trE S n o).bind fun o => (trE S n i).bind fun i => (trE S n v).map fun v => .sub o i v
    | .Assign [.Attribute o f _] v _ => (trE S n o).bind fun o => (trE S n v).map fun v => .fld o f v
    | .AugAssign (.Name x _) op e _ => (S.slotC x).bind fun i => (trE S n e).map fun e => .aug i op e
    | .Expr (.Constant (.str _) _ _) _ => some .pass
    | .Expr e _ => if isComp e then none else (trE S n e).map .ex
    | .Return (some e) _ => (trE S n e).map .ret
    | .Return none _ => some .retn
    | .If c a b _ => (trE S n c).bind fun c => (mapO (trS S n) a).bind fun a => (mapO (trS S n) b).map fun b => .ite c a b
    | .While c b [] _ => (trE S n c).bind fun c => (mapO (trS S n) b).map fun b => .whl c b
    | .For tg it b [] _ => (trSrc S (trE S n) tg it).bind fun s => (trTg S n tg).bind fun t => (mapO (trS S n) b).map fun b => .fr t s.1 s.2 b
    | .Raise (some (.Call (.Name x _) (a :: as) [] _)) none _ =>
      if S.gl x && S.p.exs.contains x then (match S.fn x (some "__init__") with
        | some f => (mapO (trE S n) (a :: as)).map fun as => .raise x f as
        | none => none) else none
    | .Try body [.ExceptHandler (some (.Name x _)) (some nm) (s0 :: su) _] [] [] _ =>
      if S.gl x && S.p.exs.contains x then (S.slotW nm).bind fun i => (trSuite nm (s0 :: su)).bind fun wf => if S.p.noat.contains (x, wf.2) then (mapO (trS S n) body).map fun b => .tryAs b x i wf.1 wf.2 else none else none
    | .Pass _ => some .pass
    | .Break _ => some .brk
    | .Continue _ => some .cont
    | _ => none
structure YOk (S : Sx) (m : Nat) (Φ : Nat → Sp) (W : WX) (X : Cx) : Prop extends XOk S m Φ W X where
  hs : X.stack = X.env :: X.outer
  hf : X.env.frame = some X.env.locals
  bk : X.env.blockKind = .function
section
variable {m : Nat} {Φ : Nat → Sp} {S : Sx} {W : WX} {X : Cx}
theorem sw_fine {e : Expr} {t : Option Expr} {l : Nat} {env : Env} (h : isComp e = false) : swapsWith e t l env = pure false := by
  cases e <;> first | rfl | cases h
theorem sw_attr {v o : Expr} {f : Str} {p : Pos} {l : Nat} {env : Env} : swapsWith v (some (.Attribute o f p)) l env = pure false := by
  cases v <;> rfl
theorem sw_sub {v o i : Expr} {p : Pos} {l : Nat} {env : Env} : swapsWithSole [.Subscript o i p] v l env = pure false := by
  cases v <;> rfl
theorem sw_tup {v : Expr} {ts : List Expr} {k : Nat} {p : Pos} {l : Nat} {env : Env} : swapsWithSole [.Tuple ts k p] v l env = pure false := by
  cases v <;> rfl
theorem ss_tup {v : Expr} {ts : List Expr} {k : Nat} {p : Pos} {env : Env} (h : isTupE v = false) : swappedStores [.Tuple ts k p] v env = pure none := by
  cases v <;> first | rfl | cases h
theorem ss_sub {v o i : Expr} {p : Pos} {env : Env} : swappedStores [.Subscript o i p] v env = pure none := rfl
theorem ps_or {st : Stmt} {a b : TS} (ha : PS X st a) (hb : PS X st b) : PS X st (eitherS a b) := ⟨fun pins s σ H D I h => h.elim (ha.run pins s σ H D I) (hb.run pins s σ H D I)⟩
theorem pip_aug (op : Operator) : PIp X op (rAug X.K op) := by
  cases op
  case Add => exact fun pins s σ H x y v u Q I rx ry h => h.elim (ip_add pins s σ H x y v u Q I rx ry) (iop_add_str pins s σ H x y v u Q I rx ry)
  case Sub => exact ip_sub
  all_goals exact fun _ _ _ _ _ _ _ _ _ _ _ _ h => h.elim
theorem pset_all (hu : X.A.units + 1 < cLine) : PSet X rSet := fun pins s σ H o i v ov iv u Q I ro ri rv h =>
  h.elim (set_list pins s σ H o i v ov iv u Q I ro ri rv) (set_dict hu pins s σ H o i v ov iv u Q I ro ri rv)
end
end PL
set_option Elab.async false
set_option linter.all false
set_option maxRecDepth 100000
set_option maxHeartbeats 16000000
namespace PL
open PySem PySem.Spec PyProof.Rows L2
section
variable {m : Nat} {Φ : Nat → Sp} {S : Sx} {W : WX} {X : Cx}
theorem star_match (e : Expr) : (match e with | .Starred _ _ => true | _ => false) = isStar e := by
  cases e <;> rfl
theorem par2_sw (o : YOk S m Φ W X) {x y : Str} {px py pt pt2 : Pos} {kt k2 : Nat} {a b : Expr} (h : parOk S [(x, px), (y, py)] [a, b] = true) :
    swappedStores [.Tuple [.Name x px, .Name y py] kt pt] (.Tuple [a, b] k2 pt2) X.env = pure (some [x, y]) ∧ x ≠ y := by
  unfold parOk at h
  simp only [Bool.and_eq_true, List.all_cons, List.all_nil, Bool.and_true, decide_eq_true_eq, beq_iff_eq, List.map_cons, List.map_nil, Bool.not_eq_true', List.head?_cons, Option.map_some, Option.getD_some] at h
  obtain ⟨⟨⟨⟨⟨⟨⟨h1, _⟩, _⟩, ⟨h2, _⟩, hl⟩, hnd⟩, s1, s2⟩, hf⟩, hc⟩ := h
  have k1 : X.env.kindOf x = some .local := by
    rcases o.sc _ _ h1 with q | ⟨q, _⟩
    · exact q
    · cases q
  have k2' : X.env.kindOf y = some .local := by
    rcases o.sc _ _ h2 with q | ⟨q, _⟩
    · exact q
    · cases q
  have hxy : x ≠ y := by
    intro e
    subst e
    simp at hnd
  refine ⟨?_, hxy⟩
  have ee : ([x, y] : List Str).eraseDups = [x, y] := by
    have : (y == x) = false := by simpa using fun e : y = x => hxy e.symm
    simp [List.eraseDups_cons, this]
  unfold swappedStores
  have l1 : (Expr.Name x px).pos.line = px.line := rfl
  simp [o.bk, k1, k2', l1, hl, ee, hf, hc, List.filterMap_cons]
  intro hh
  rcases hh with hh | hh
  · cases a <;> first | (cases hh; done) | (cases s1; done)
  · cases b <;> first | (cases hh; done) | (cases s2; done)
theorem par3_sw (o : YOk S m Φ W X) {x y z : Str} {px py pz pt pt2 : Pos} {kt k2 : Nat} {a b c : Expr} (h : parOk S [(x, px), (y, py), (z, pz)] [a, b, c] = true) :
    swappedStores [.Tuple [.Name x px, .Name y py, .Name z pz] kt pt] (.Tuple [a, b, c] k2 pt2) X.env = pure (some [x, y, z]) ∧ x ≠ y ∧ x ≠ z ∧ y ≠ z := by
  unfold parOk at h
  simp only [Bool.and_eq_true, List.all_cons, List.all_nil, Bool.and_true, decide_eq_true_eq, beq_iff_eq, List.map_cons, List.map_nil, Bool.not_eq_true', List.head?_cons, Option.map_some, Option.getD_some] at h
  obtain ⟨⟨⟨⟨⟨⟨⟨h1, _⟩, _⟩, ⟨⟨h2, _⟩, hl⟩, ⟨h3, _⟩, hl3⟩, hnd⟩, s1, s2, s3⟩, hf⟩, hc⟩ := h
  have kk : ∀ {u : Str}, S.sc.names.lookup u = some .local → X.env.kindOf u = some .local := fun {u} hu => by
    rcases o.sc _ _ hu with q | ⟨q, _⟩
    · exact q
    · cases q
  have k1 := kk h1
  have k2' := kk h2
  have k3 := kk h3
  have hxy : x ≠ y := by
    intro e
    subst e
    simp at hnd
  have hxz : x ≠ z := by
    intro e
    subst e
    simp at hnd
  have hyz : y ≠ z := by
    intro e
    subst e
    simp at hnd
  refine ⟨?_, hxy, hxz, hyz⟩
  have ee : ([x, y, z] : List Str).eraseDups = [x, y, z] := by
    have e1 : (y == x) = false := by simpa using fun e : y = x => hxy e.symm
    have e2 : (z == x) = false := by simpa using fun e : z = x => hxz e.symm
    have e3 : (z == y) = false := by simpa using fun e : z = y => hyz e.symm
    simp [List.eraseDups_cons, e1, e2, e3]
  unfold swappedStores
  have l1 : (Expr.Name x px).pos.line = px.line := rfl
  simp [o.bk, k1, k2', k3, l1, hl, hl3, ee, hf, hc, List.filterMap_cons]
  intro hh
  rcases hh with hh | hh | hh
  · cases a <;> first | (cases hh; done) | (cases s1; done)
  · cases b <;> first | (cases hh; done) | (cases s2; done)
  · cases c <;> first | (cases hh; done) | (cases s3; done)
theorem suite_of {nm w f : Str} {st : List Stmt} (h : trSuite nm st = some (w, f)) : ∃ j1 p1 p2 p3 p4 p5, st = [.Return (some (.List [.Constant (.str w) j1 p1, .Attribute (.Name nm p2) f p3] p4)) p5] := by
  unfold trSuite at h
  split at h
  · split at h
    · rename_i hx
      cases h
      have e := beq_iff_eq.mp hx
      subst e
      exact ⟨_, _, _, _, _, _, rfl⟩
    · cases h
  · cases h
theorem ra_of {x : Str} {W : WX} {X : Cx} {es : List Expr} {e : Expr} {ts : List T2} {k f : Nat} {p pos pos2 : Pos} : True := trivial
/-- around a try's body -/
theorem YOk.tr (o : YOk S m Φ W X) {W' : WX} {pn : List (Addr × Obj)} {xe : Value → Shared → Prop} (tk : Takes (X.tr pn xe) W') (hp : PassesOwn (model X.prog X.w) X.A X.env xe) : YOk S m Φ W' (X.tr pn xe) where
  hN := o.hN
  nd := o.nd
  sc := o.sc
  calm := o.calm
  room := o.room
  tk := tk
  g := o.g
  fnm := o.fnm
  hp := hp
  hs := o.hs
  hf := o.hf
  bk := o.bk
theorem set_name {x : Str} {i n : Nat} {px pos : Pos} {e : Expr} {y : Ex} (o : YOk S m Φ W X) (hi : S.slotC x = some i) (h : trE S n e = some y) : PS X (.Assign [.Name x px] e pos) (tAsg (t2 X.K Φ y W).1 (gName i)) := by
  obtain ⟨a, b, c⟩ := o.slotC hi
  by_cases hc : isComp e = true
  · cases n with
    | zero => cases h
    | succ n =>
      cases e <;> first | (cases hc; done) | (cases h; done) | skip
      rename_i elt gens scope p
      -- whichever way the block's list is stored
      obtain ⟨bb, hsw⟩ : ∃ bb, swapsWith (.ListComp elt gens scope p) (some (.Name x px)) pos.line X.env = pure bb := ⟨_, rfl⟩
      cases bb with
      | false => exact ps_set o.nd a b (snd_E (n + 1) o.toXOk h).1 hsw c
      | true =>
        have hloc : X.env.scope.names.lookup x = some .local := by
          have e1 : swapsWith (.ListComp elt gens scope p) (some (.Name x px)) pos.line X.env = pure (X.env.blockKind == .function && X.env.kindOf x == some .local && px.line == p.line && !(scope.names.any fun (n, k) => n == x && (k == .local || k == .cell))) := rfl
          by_cases hk : X.env.kindOf x = some .local
          · exact hk
          · exfalso
            have hk' : (X.env.kindOf x == some .local) = false := by simpa using hk
            rw [e1, hk'] at hsw
            have hsw' : (pure false : Sem Bool) = pure true := by simpa using hsw
            exact absurd hsw' (by intro z; cases z)
        have h' := h
        unfold trE at h'
        split at h' <;> first | (rename_i e; cases e; done) | skip
        case h_24 elt' tg iter ifs scope' p' he =>
          cases he
          split at h'
          · rename_i hb
            simp only [Option.bind_eq_some_iff, Option.map_eq_some_iff] at h'
            obtain ⟨⟨k, ss⟩, h1, t, h2, el, h3, cs, h4, rfl⟩ := h'
            obtain ⟨i1, i2⟩ := src_ok o.toXOk (fun e x h => snd_E n o.toXOk h) h1
            have ob := fun (s : Shared) (H : Hp) (C : Addr) (cl : List (Str × Addr)) (fp : List Addr) => o.toXOk.blk s H scope C cl fp
            have q : PS X (.Assign [.Name x px] (.ListComp elt [⟨tg, iter, ifs, 0⟩] scope p) pos) (tAsg (tLc (tI X.K k (tL X.K Φ ss W)) (tTg X.K t) (tCs (tL X.K Φ cs W0)) (t2 X.K Φ el W0).1 ((ownOf S.N scope).map (·.2))) (gName i)) :=
              ps_setLc o.calm o.nd a hloc hsw i1 (blk_of o.toXOk (blkOk_by hb)) (fun s H C cl fp => tg_ok (ob s H C cl fp) n h2) (fun s H C cl fp => ifs_ok (fun e x h => snd_E n (ob s H C cl fp) h) h4)
                (fun s H C cl fp => (snd_E n (ob s H C cl fp) h3).1) i2
            refine ⟨fun pins s σ H D I hw => ?_⟩
            unfold t2 at hw
            rcases hw with hw | hw
            · exact q.run pins s σ H D I hw
            · exact (ps_lock q).run pins s σ H D I hw
          · cases h'
        all_goals cases h'
  · have hc' : isComp e = false := by simpa using hc
    exact ps_set o.nd a b (snd_E n o.toXOk h).1 (sw_fine hc') c
end
end PL
set_option Elab.async false
set_option linter.all false
set_option maxRecDepth 100000
set_option maxHeartbeats 16000000
namespace PL
open PySem PySem.Spec PyProof.Rows L2
section
variable {m : Nat} {Φ : Nat → Sp}
theorem as_sub {o i : Expr} {p : Pos} {env : Env} (h : fine i = true) (v : Value) : assign (.Subscript o i p) env v = (do
      let ov ← holding [v] (eval o env)
      let iv ← holding [v, ov] (eval i env)
      standAt p
      holding [v, ov, iv] (setItem ov iv v)
      release [v, ov, iv] []) := by
  cases i <;> first | rfl | (cases h; done)
theorem pss_of {S : Sx} {X : Cx} {W : WX} {n : Nat} (ih : ∀ (st : Stmt) (c : Cm), trS S n st = some c → PS X st (tS X.K Φ c W)) : ∀ {b : List Stmt} {cs : List Cm}, mapO (trS S n) b = some cs → PSs X b (tSs X.K Φ cs W)
  | [], cs, h => by
    have e := mapO_nil h
    subst e
    unfold tSs
    exact pss_nil
  | s :: r, cs, h => by
    obtain ⟨c, cr, rfl, h1, h2⟩ := mapO_cons h
    unfold tSs
    exact pss_cons (ih _ _ h1) (pss_of ih h2)
theorem snd_S : ∀ (n : Nat) {S : Sx} {X : Cx} {W : WX} {st : Stmt} {c : Cm}, YOk S m Φ W X → trS S n st = some c → PS X st (tS X.K Φ c W)
  | 0, _, _, _, _, _, _, h => by cases h
  | n + 1, S, X, W, st, c, o, h => by
    have ih : ∀ (st : Stmt) (c : Cm), trS S n st = some c → PS X st (tS X.K Φ c W) := fun st c h => snd_S n o h
    have ie : ∀ {e : Expr} {x : Ex}, trE S n e = some x → PE X e (t2 X.K Φ x W).1 ∧ PT X e (t2 X.K Φ x W).2 := fun h => snd_E n o.toXOk h
    have hu : X.A.units + 1 < cLine := by have := o.hu; omega
    unfold trS at h
    split at h
    case h_1 x px e pos =>
      simp only [Option.bind_eq_some_iff, Option.map_eq_some_iff] at h
      obtain ⟨i, hi, y, hy, rfl⟩ := h
      unfold tS tTg
      exact set_name o hi hy
    case h_2 x px y py k1 p1 a b k2 p2 pos =>
      split at h
      · rename_i hp
        simp only [Option.bind_eq_some_iff, Option.map_eq_some_iff] at h
        obtain ⟨i, hi, j, hj, xa, ha, xb, hb, rfl⟩ := h
        obtain ⟨sw, ne⟩ := par2_sw o (pt := p1) (pt2 := p2) (kt := k1) (k2 := k2) hp
        obtain ⟨i1, i2⟩ := o.slotW hi
        obtain ⟨j1, j2⟩ := o.slotW hj
        have hij : i ≠ j := by
          intro e
          subst e
          rw [i1] at j1
          exact ne (Option.some.inj j1)
        have sa := fine_star (fine_of ha)
        have sb := fine_star (fine_of hb)
        unfold tS
        exact ps_par o.calm o.nd i1 j1 hij i2 j2 (pa_cons (ie ha).1 (pa_cons (ie hb).1 pa_nil (star_of sb)) (star_of sa)) sw sw_tup
      · cases h
    case h_3 x px y py z pz k1 p1 a b c k2 p2 pos =>
      split at h
      · rename_i hp
        simp only [Option.bind_eq_some_iff, Option.map_eq_some_iff] at h
        obtain ⟨i, hi, j, hj, k, hk, xa, ha, xb, hb, xc, hc, rfl⟩ := h
        obtain ⟨sw, n1, n2, n3⟩ := par3_sw o (pt := p1) (pt2 := p2) (kt := k1) (k2 := k2) hp
        obtain ⟨i1, i2⟩ := o.slotW hi
        obtain ⟨j1, j2⟩ := o.slotW hj
        obtain ⟨l1, l2⟩ := o.slotW hk
        have ne2 : ∀ {a b : Nat} {u v : Str}, X.N[a]? = some u → X.N[b]? = some v → u ≠ v → a ≠ b := fun {a b u v} h1 h2 h3 e => by
          subst e
          rw [h1] at h2
          exact h3 (Option.some.inj h2)
        have sa := fine_star (fine_of ha)
        have sb := fine_star (fine_of hb)
        have sc := fine_star (fine_of hc)
        unfold tS
        exact ps_par3 o.calm o.nd i1 j1 l1 (ne2 i1 j1 n1) (ne2 i1 l1 n2) (ne2 j1 l1 n3) i2 j2 l2 (pa_cons (ie ha).1 (pa_cons (ie hb).1 (pa_cons (ie hc).1 pa_nil (star_of sc)) (star_of sb)) (star_of sa)) sw sw_tup
      · cases h
    case h_4 ts k p e pos _ _ =>
      split at h
      · cases h
      · rename_i ht
        simp only [Option.bind_eq_some_iff, Option.map_eq_some_iff] at h
        obtain ⟨t, h1, y, h2, rfl⟩ := h
        unfold tS
        exact ps_asg (ie h2).1 (tg_ok o.toXOk n h1) sw_tup (ss_tup (by simpa using ht)) rfl
    case h_5 ob i p v pos =>
      simp only [Option.bind_eq_some_iff, Option.map_eq_some_iff] at h
      obtain ⟨xo, h1, xi, h2, xv, h3, rfl⟩ := h
      unfold tS
      exact ps_asg (ie h3).1 (pg_sub (ie h1).1 (ie h2).1 (pset_all hu) (as_sub (fine_of h2))) sw_sub ss_sub rfl
    case h_6 ob f p v pos =>
      simp only [Option.bind_eq_some_iff, Option.map_eq_some_iff] at h
      obtain ⟨xo, h1, xv, h2, rfl⟩ := h
      unfold tS
      exact ps_or (ps_fld (ie h1).1 (ie h2).1 sw_attr) (ps_ost (ie h1).1 (ie h2).1 sw_attr)
    case h_7 x px op e pos =>
      simp only [Option.bind_eq_some_iff, Option.map_eq_some_iff] at h
      obtain ⟨i, hi, y, h2, rfl⟩ := h
      obtain ⟨a, b, c⟩ := o.slotC hi
      unfold tS
      exact ps_aug o.nd a b (ie h2).1 (pip_aug op) c
    case h_8 =>
      cases h
      unfold tS
      exact ps_doc
    case h_9 e pos _ =>
      split at h
      · cases h
      · rename_i hc
        simp only [Option.map_eq_some_iff] at h
        obtain ⟨y, h2, rfl⟩ := h
        unfold tS
        exact ps_expr (ie h2).1 (sw_fine (by simpa using hc))
    case h_10 e pos =>
      simp only [Option.map_eq_some_iff] at h
      obtain ⟨y, h2, rfl⟩ := h
      unfold tS
      exact ps_ret (ie h2).1
    case h_11 =>
      cases h
      unfold tS
      exact ps_retN
    case h_12 c a b pos =>
      simp only [Option.bind_eq_some_iff, Option.map_eq_some_iff] at h
      obtain ⟨xc, h1, ca, h2, cb, h3, rfl⟩ := h
      unfold tS
      exact ps_if (ie h1).2 (pss_of ih h2) (pss_of ih h3)
    case h_13 c b pos =>
      simp only [Option.bind_eq_some_iff, Option.map_eq_some_iff] at h
      obtain ⟨xc, h1, cb, h3, rfl⟩ := h
      unfold tS
      exact ps_while o.hp (ie h1).2 (pss_of ih h3)
    case h_14 tg it b pos =>
      simp only [Option.bind_eq_some_iff, Option.map_eq_some_iff] at h
      obtain ⟨⟨k, ss⟩, h1, t, h2, cb, h3, rfl⟩ := h
      obtain ⟨i1, i2⟩ := src_ok o.toXOk (fun e x h => snd_E n o.toXOk h) h1
      have q := ps_for (pos := pos) o.hp o.calm i1 (tg_ok o.toXOk n h2) (pss_of ih h3) i2
      unfold tS
      exact ps_or q (ps_lock q)
    case h_15 x px a as p pos =>
      split at h
      · rename_i hg
        obtain ⟨hg1, hg2⟩ := Bool.and_eq_true_iff.mp hg
        obtain ⟨g1, g2, g3⟩ := o.gl hg1
        split at h
        · rename_i f hf
          simp only [Option.map_eq_some_iff] at h
          obtain ⟨xs, h1, rfl⟩ := h
          obtain ⟨q1, q2, q3⟩ := snd_A (fun e x h => snd_E n o.toXOk h) h1
          obtain ⟨d, d1, d2⟩ := ixD_get hf
          obtain ⟨fd, ps, F, B, kp⟩ := o.g.fn _ _ d1
          obtain ⟨T, iC, tI⟩ := o.g.ex _ _ _ d1 d2 hg2
          have h2 := (Bool.and_eq_true_iff.mp (show ((!isStar a) && as.all fun e => !isStar e) = true from q2))
          unfold tS
          exact ps_raise o.calm o.tk (pmk_oex T iC tI F o.room B .nil passL g1 (o.g.gcl _ (by rw [hg2] <;> simp)) q1 g2 (star_of (by simpa using h2.1)) (star_any h2.2))
        · cases h
      · cases h
    case h_16 body x px nm s0 su p pos =>
      split at h
      · rename_i hg
        obtain ⟨hg1, hg2⟩ := Bool.and_eq_true_iff.mp hg
        obtain ⟨g1, g2, g3⟩ := o.gl hg1
        simp only [Option.bind_eq_some_iff] at h
        obtain ⟨i, hi, ⟨w, f⟩, hw, h⟩ := h
        split at h
        · rename_i hno
          simp only [Option.map_eq_some_iff] at h
          obtain ⟨cb, h1, rfl⟩ := h
          obtain ⟨i1, i2⟩ := o.slotW hi
          obtain ⟨j1, p1, p2, p3, p4, p5, es⟩ := suite_of hw
          have hno' := o.g.noat _ _ hno
          have xf := o.g.xf _ hg2
          unfold tS
          refine ps_try_as (tb := fun W => tSs X.K Φ cb W) (ts := tSuite X.K x i w f) o.hs o.hf o.nd i1 i2 ⟨g1, g2, .inl (o.g.gcl _ (by rw [hg2] <;> simp))⟩ o.tk (fun W' pn xe tk hp => pss_of (fun st c h => snd_S n (o.tr tk hp) h) h1) (fun a oe cls d pn hz hf => ?_)
          rw [es]
          exact pss_one (ps_ret (pe_lst (pa_cons pe_str (pa_cons (pe_xf xf hno' hz hf (pe_var i1 (.inl i2) (slotW_ok hi).1 (slotW_ok hi).2) rfl) pa_nil rfl) rfl)))
        · cases h
      · cases h
    case h_17 => cases h; unfold tS; exact ps_pass
    case h_18 => cases h; unfold tS; exact ps_break
    case h_19 => cases h; unfold tS; exact ps_continue
    case h_20 => cases h
end
end PL
set_option Elab.async false
set_option linter.all false
set_option maxRecDepth 100000
set_option maxHeartbeats 16000000
namespace PL
open PySem PySem.Spec PyProof.Rows L2

/-! ### how a call binds: plain parameters -/
theorem zip_found : ∀ {ps : List Str} {us : List Value} {n : Str}, us.length = ps.length → n ∈ ps → ((ps.zip us).lookup n).isNone = false
  | [], _, _, _, h => by cases h
  | p :: r, [], _, hl, _ => by cases hl
  | p :: r, u :: us, n, hl, h => by
    rw [List.zip_cons_cons, List.lookup_cons]
    cases e : (n == p) with
    | true => rfl
    | false =>
      rcases List.mem_cons.mp h with h | h
      · subst h
        simp at e
      · exact zip_found (by simpa using hl) h
theorem fm_congr {α β : Type} {f g : α → Option β} : ∀ {l : List α}, (∀ a ∈ l, f a = g a) → l.filterMap f = l.filterMap g
  | [], _ => rfl
  | a :: r, h => by
    rw [List.filterMap_cons, List.filterMap_cons, h a List.mem_cons_self, fm_congr fun b hb => h b (List.mem_cons_of_mem _ hb)]
theorem zip_binds : ∀ {ps : List Str} {us : List Value}, ps.Nodup → us.length = ps.length → (ps.filterMap fun n => ((ps.zip us).lookup n).map fun v => (n, v)) = ps.zip us
  | [], _, _, _ => by simp
  | p :: r, [], _, hl => by cases hl
  | p :: r, u :: us, nd, hl => by
    obtain ⟨h1, h2⟩ := List.nodup_cons.mp nd
    rw [List.filterMap_cons, List.zip_cons_cons, List.lookup_cons]
    simp only [BEq.rfl, Option.map_some]
    congr 1
    refine Eq.trans (fm_congr fun n hn => ?_) (zip_binds h2 (by simpa using hl))
    have e : (n == p) = false := by
      simp only [beq_eq_false_iff_ne, ne_eq]
      intro q
      subst q
      exact h1 hn
    rw [List.lookup_cons, e]
/-- the parameters are plain: no default, no star -/
def plainP (a : Arguments) : Bool := a.posonlyargs.isEmpty && a.vararg.isNone && a.kwonlyargs.isEmpty && a.kwarg.isNone && a.defaults.isEmpty
theorem bind_plain {x qual : Str} {a : Arguments} {body : List Stmt} {scope : Scope} {kV doc pm : Value} {an : Option Addr} {cdv ct : Value} {us : List Value} (h : plainP a = true) (nd : (a.args.map (·.arg)).Nodup) (hl : us.length = (a.args.map (·.arg)).length) :
    bindArgs (PySem.W.fnOf x qual a body scope .none kV doc pm an cdv ct) ⟨us, []⟩ = pure ((a.args.map (·.arg)).zip us) := by
  obtain ⟨po, ar, va, ko, kd, kw, df⟩ := a
  unfold plainP at h
  simp only [Bool.and_eq_true, List.isEmpty_iff, Option.isNone_iff_eq_none] at h
  obtain ⟨⟨⟨⟨h1, h2⟩, h3⟩, h4⟩, h5⟩ := h
  dsimp only at h1 h2 h3 h4 h5 nd hl
  subst h1 h2 h3 h4 h5
  unfold bindArgs PySem.W.fnOf
  have sq : seqItems? Value.none = pure none := by rfl
  dsimp only
  generalize hps : ar.map (·.arg) = ps at nd hl
  have gt : ¬ us.length > ps.length := by omega
  have ms : ((ps.take (ps.length - 0)).filter fun n => ((ps.zip us).lookup n).isNone) = [] := by
    rw [List.filter_eq_nil_iff]
    intro n hn
    rw [zip_found hl (List.mem_of_mem_take hn)]
    exact Bool.false_ne_true
  have zb := zip_binds nd hl
  have ms2 : ((ps.take ps.length).filter fun n => ((ps.zip us).lookup n).isNone) = [] := ms
  simp only [List.map_nil, List.nil_append, List.append_nil, hps, sq, pure_bind, Option.getD_none, List.length_nil, Nat.sub_zero, List.drop_nil, Nat.zero_sub, ms2, List.isEmpty_nil, Bool.not_true, Bool.false_eq_true, if_false, gt, decide_false, Bool.false_and, List.zip_nil_right, List.forIn_nil, zb]
end PL
set_option Elab.async false
set_option linter.all false
set_option maxRecDepth 100000
set_option maxHeartbeats 16000000
namespace PL
open PySem PySem.Spec PyProof.Rows L2

/-! ### defs -/
/-- a def in the small language: its slots, how many of them are parameters, its body -/
structure Fd where
  N : List Str
  np : Nat
  b : List Cm
def parsOf (d : He.DefD) : List Str := d.params.args.map (·.arg)
/-- what is looked at of a def, beside its body -/
def fdOk (d : He.DefD) (t : Fd) : Bool :=
  plainP d.params && d.dfl.isEmpty && d.kwd.isEmpty && decide (t.N.take (parsOf d).length = parsOf d) && decide (t.np = (parsOf d).length) && decide t.N.Nodup &&
  (match d.scope.kind with | .function => true | _ => false) && !d.scope.isCoroutine && !d.scope.isGenerator &&
  (parsOf d).all (fun x => d.scope.names.lookup x == some .local || d.scope.names.lookup x == some .cell) && d.scope.names.all (fun y => !(y.2 == .free))
def FUEL : Nat := 60
def bodyOf (p : Px) (d : He.DefD) (t : Fd) : Option (List Cm) := mapO (trS ⟨p, t.N, d.scope⟩ FUEL) d.body
/-- each def is read as its table says -/
structure Chk (p : Px) (T : List Fd) : Prop where
  len : p.ds.length = T.length
  ok : ∀ (i : Nat) (d : He.DefD) (t : Fd), p.ds[i]? = some d → T[i]? = some t → fdOk d t = true ∧ bodyOf p d t = some t.b
theorem Chk.of {p : Px} {T : List Fd} (h : (p.ds.zip T).map (fun q => (fdOk q.1 q.2, bodyOf p q.1 q.2)) = T.map fun t => (true, some t.b)) (hl : p.ds.length = T.length) : Chk p T where
  len := hl
  ok := fun i d t h1 h2 => by
    have hz : (p.ds.zip T)[i]? = some (d, t) := by
      rw [List.getElem?_zip_eq_some]
      exact ⟨h1, h2⟩
    have e : ((p.ds.zip T).map (fun q => (fdOk q.1 q.2, bodyOf p q.1 q.2)))[i]? = (T.map fun t => (true, some t.b))[i]? := by rw [h]
    rw [List.getElem?_map, List.getElem?_map, hz, h2] at e
    have e2 := Option.some.inj e
    exact ⟨congrArg (·.1) e2, congrArg (·.2) e2⟩
/-- the slots at the entry -/
def start0 (n : Nat) (vs : List V) : L2.St := vs.map some ++ List.replicate (n - vs.length) none
def Phi (K : PySem.W.Frag) (T : List Fd) : Nat → Nat → Sp
  | 0, _ => fun _ _ _ _ => False
  | n + 1, i => fun vs H Q E => ∃ t, T[i]? = some t ∧ vs.length = t.np ∧ tSs K (Phi K T n) t.b (fun cls d _ H' => E cls d H') { nx := fun _ H' => Q .non H', rt := Q } (start0 t.N.length vs) H
/-- what the written part says, the defs' promises apart -/
structure Gd (p : Px) (K : PySem.W.Frag) (mg : Str → Option Value) : Prop where
  txt : ∀ x z, p.txts.lookup x = some z → ∃ t, mg x = some (.str z t)
  free : ∀ x, p.free.contains x = true → mg x = none
  gcl : ∀ x, (p.cls.contains x || p.exs.contains x) = true → mg x = some (.ref (He.ga K x))
  cl : ∀ x, p.cls.contains x = true → Cls K (He.ga K x)
  def_ : ∀ (i : Nat) (d : He.DefD), p.ds[i]? = some d → ∃ fd, FunD K d.name d.qual d.params d.body d.scope (d.dvs K) (d.kws K) (He.fAd K d.at_) fd
  fng : ∀ (i : Nat) (d : He.DefD) (x : Str), p.ds[i]? = some d → d.at_ = (x, none) → mg x = some (.ref (He.fAd K d.at_))
  mth : ∀ (i : Nat) (d : He.DefD) (c n : Str), p.ds[i]? = some d → d.at_ = (c, some n) → p.cls.contains c = true → Meth K (He.ga K c) n (He.fAd K d.at_)
  mkr : ∀ (i : Nat) (d : He.DefD) (c : Str), p.ds[i]? = some d → d.at_ = (c, some ("__init__" : Str)) → p.cls.contains c = true → Mk K (He.ga K c) (He.fAd K d.at_)
  ex : ∀ (i : Nat) (d : He.DefD) (x : Str), p.ds[i]? = some d → d.at_ = (x, some ("__init__" : Str)) → p.exs.contains x = true →
    OexC K (He.ga K x) ∧ PySem.W.findIn K (.ref (He.ga K x)) "__init__" = some (some (.ref (He.fAd K d.at_))) ∧ PySem.W.typeIn K (.ref (He.fAd K d.at_)) = some (.type "function")
  xf : ∀ (x : Str), p.exs.contains x = true → XfC K (He.ga K x)
  noat : ∀ (x f : Str), p.noat.contains (x, f) = true → PySem.W.findIn K (.ref (He.ga K x)) f = some none
theorem fnscope_of {d : He.DefD} {t : Fd} (h : fdOk d t = true) : FnScope t.N (parsOf d) d.scope ∧ plainP d.params = true ∧ d.dfl = [] ∧ d.kwd = [] ∧ t.np = (parsOf d).length := by
  unfold fdOk at h
  simp only [Bool.and_eq_true, decide_eq_true_eq, List.isEmpty_iff, Bool.not_eq_true', List.all_eq_true, Bool.or_eq_true, beq_iff_eq] at h
  obtain ⟨⟨⟨⟨⟨⟨⟨⟨⟨⟨h1, h2⟩, h3⟩, h4⟩, h5⟩, h6⟩, h7⟩, h8⟩, h9⟩, h10⟩, h11⟩ := h
  have hk : d.scope.kind = .function := by
    revert h7
    cases d.scope.kind <;> intro h7 <;> first | rfl | cases h7
  exact ⟨⟨hk, h8, h9, h6, h4, h10, fun y hy => by simpa using h11 y hy⟩, h1, h2, h3, h5⟩
section
variable {p : Px} {T : List Fd} {P : Program} {w : World} {K : PySem.W.Frag} {mg : Str → Option Value} {base : Heap}
theorem fn_all (c : Chk p T) (g : Gd p K mg) : ∀ (n : Nat) (i : Nat) (d : He.DefD), p.ds[i]? = some d → ∀ fd, FunD K d.name d.qual d.params d.body d.scope (d.dvs K) (d.kws K) (He.fAd K d.at_) fd →
    FnOk P w K mg base (L2.CX P w) (2 * n) (He.fAd K d.at_) fd (parsOf d) (Phi K T n i) ∧ L2.Binds K fd (parsOf d) [] ∧ PySem.W.keepIn K (.ref (He.fAd K d.at_)) = true ∧ ∀ (s : Shared) (us : List Value), us.length = (parsOf d).length → BindsTo s fd ⟨us, []⟩ ((parsOf d).zip us)
  | 0, i, d, h, fd, F => by
    obtain ⟨t, ht⟩ : ∃ t, T[i]? = some t := by
      have : i < T.length := by rw [← c.len]; exact (List.getElem?_eq_some_iff.mp h).1
      exact ⟨T[i], List.getElem?_eq_getElem this⟩
    obtain ⟨S, pl, e1, e2, e3⟩ := fnscope_of (c.ok i d t h ht).1
    have nd : (parsOf d).Nodup := by rw [← S.pre]; exact S.nd.sublist (List.take_sublist _ _)
    have e1' : d.dvs K = [] := by unfold He.DefD.dvs; rw [e1] <;> rfl
    rw [e1'] at F
    exact ⟨⟨fun _ _ _ _ h => h.elim, fun _ _ _ _ _ _ _ _ _ _ _ _ _ h => h.elim⟩, F.bindsN fun _ _ _ _ _ _ us hl => bind_plain pl nd hl, F.kp, fun s us hl => FunD.bindsA F (fun _ _ _ _ _ _ us hl => bind_plain pl nd hl) s us hl⟩
  | n + 1, i, d, h, fd, F => by
    obtain ⟨t, ht⟩ : ∃ t, T[i]? = some t := by
      have : i < T.length := by rw [← c.len]; exact (List.getElem?_eq_some_iff.mp h).1
      exact ⟨T[i], List.getElem?_eq_getElem this⟩
    obtain ⟨ok1, ok2⟩ := c.ok i d t h ht
    obtain ⟨S, pl, e1, e2, e3⟩ := fnscope_of ok1
    have nd : (parsOf d).Nodup := by rw [← S.pre]; exact S.nd.sublist (List.take_sublist _ _)
    have e1' : d.dvs K = [] := by unfold He.DefD.dvs; rw [e1] <;> rfl
    rw [e1'] at F
    have gok : GOk p P w K mg base (2 * n) (Phi K T n) := {
      txt := g.txt, free := g.free, gcl := g.gcl, cl := g.cl, fng := g.fng, mth := g.mth, mkr := g.mkr, ex := g.ex, xf := g.xf, noat := g.noat
      fn := fun j e hj => by
        obtain ⟨fd', F'⟩ := g.def_ j e hj
        obtain ⟨a, b, c', _⟩ := fn_all c g n j e hj fd' F'
        exact ⟨fd', _, a, b, c'⟩ }
    refine ⟨?_, F.bindsN fun _ _ _ _ _ _ us hl => bind_plain pl nd hl, F.kp, fun s us hl => FunD.bindsA F (fun _ _ _ _ _ _ us hl => bind_plain pl nd hl) s us hl⟩
    show FnOk P w K mg base (L2.CX P w) (2 * n + 1 + 1) _ _ _ _
    refine F.ok S (fun vs H Q E hsp => ?_) (fun cdv A outer s H vs Q E hr hsp => ?_)
    · obtain ⟨t', ht', hv, _⟩ := hsp
      rw [ht] at ht'
      cases ht'
      rw [hv, e3]
    · obtain ⟨t', ht', hv, q⟩ := hsp
      rw [ht] at ht'
      cases ht'
      refine ⟨tSs K (Phi K T n) t.b (fun cls d _ H' => E cls d H'), ?_, ?_⟩
      · have o : YOk ⟨p, t.N, d.scope⟩ (2 * n) (Phi K T n) (fun cls d _ H' => E cls d H') (cxOf (L2.CX P w) P w K mg base t.N d.qual d.scope (He.fAd K d.at_) cdv A outer s H E) := {
          hN := rfl
          nd := S.nd
          sc := fun x k hk => .inl hk
          calm := rfl
          room := hr
          tk := takes_of rfl rfl rfl rfl
          g := gok
          fnm := fun _ _ => rfl
          hp := passes_of rfl
          hs := rfl
          hf := rfl
          bk := by
            have hk := S.kind
            show Env.blockKind _ = _
            unfold Env.blockKind
            show (if ScopeKind.isAnnotationScope d.scope.kind then ScopeKind.function else d.scope.kind) = _
            rw [hk] <;> rfl }
        exact pss_of (fun st c hc => snd_S FUEL o hc) ok2
      · exact q
end
end PL
set_option Elab.async false
set_option linter.all false
set_option maxRecDepth 100000
set_option maxHeartbeats 16000000
namespace PL
open PySem PySem.Spec PyProof.Rows L2

/-! ### what the top leaves: looked at by one run -/
def isBI (r : Option (Option Value)) (id : String) : Bool := match r with
  | some (some (.builtin n)) => n == id
  | _ => false
theorem isBI_ok {r : Option (Option Value)} {id : String} (h : isBI r id = true) : r = some (some (.builtin id)) := by
  unfold isBI at h
  split at h
  · rw [beq_iff_eq.mp h]
  · cases h
def isRf (r : Option (Option Value)) (a : Addr) : Bool := match r with
  | some (some (.ref b)) => decide (b = a)
  | _ => false
theorem isRf_ok {r : Option (Option Value)} {a : Addr} (h : isRf r a = true) : r = some (some (.ref a)) := by
  unfold isRf at h
  split at h
  · rw [of_decide_eq_true h]
  · cases h
def isTy (r : Option Value) (n : String) : Bool := match r with
  | some (.type m) => m == n
  | _ => false
theorem isTy_ok {r : Option Value} {n : String} (h : isTy r n = true) : r = some (.type n) := by
  unfold isTy at h
  split at h
  · rw [beq_iff_eq.mp h]
  · cases h
def isOb (r : Option Bool) (b : Bool) : Bool := r == some b
theorem isOb_ok {r : Option Bool} {b : Bool} (h : isOb r b = true) : r = some b := beq_iff_eq.mp h
/-- an own error class over ValueError -/
def oexB (K : PySem.W.Frag) (C : Addr) : Bool :=
  (match K.lookup C with
  | some ⟨.type "type", _, .cls cd, sl⟩ => (match cd.mro, sl.toList with
    | .ref C' :: bm, [k0, k1, k2, k3, some (.builtin n), k5] => decide (C' = C) && n == "ValueError.__new__" && cd.hasDict && !cd.hasDel && PySem.HandSPX.refsVE bm
    | _, _ => false)
  | _ => false) &&
  isBI (PySem.W.findIn K (.ref C) "__setattr__") "object.__setattr__" && isOb (PySem.W.subIn K (.ref C) (.type "BaseException")) true && isTy (PySem.W.typeIn K (.ref C)) "type" && PySem.W.keepIn K (.ref C)
theorem oexB_ok {K : PySem.W.Frag} {C : Addr} (h : oexB K C = true) : OexC K C := by
  unfold oexB at h
  simp only [Bool.and_eq_true] at h
  obtain ⟨⟨⟨⟨h1, h2⟩, h3⟩, h4⟩, h5⟩ := h
  refine ⟨?_, isBI_ok h2, isOb_ok h3, isTy_ok h4, h5⟩
  split at h1
  · rename_i dd cd sl ho
    split at h1
    · rename_i C' bm k0 k1 k2 k3 n k5 hm hs
      simp only [Bool.and_eq_true, beq_iff_eq, Bool.not_eq_true', decide_eq_true_eq] at h1
      obtain ⟨⟨⟨⟨rfl, rfl⟩, hd⟩, hdel⟩, hr⟩ := h1
      obtain ⟨nm, bs, mro, ns, qn, hd', sn, sub, ab, col, del⟩ := cd
      dsimp only at hm hdel hd
      subst hm hdel hd
      have hsl : sl = #[k0, k1, k2, k3, some (.builtin "ValueError.__new__"), k5] := by
        obtain ⟨l⟩ := sl
        simp only at hs
        rw [hs]
      subst hsl
      exact ⟨nm, qn, ns, bs, bm, sn, sub, ab, col, dd, k0, k1, k2, k3, k5, ho, hr⟩
    · cases h1
  · cases h1
/-- a class whose instances isinstance is asked of -/
def insB (K : PySem.W.Frag) (C : Addr) : Bool := isBI (PySem.W.findIn K (.ref C) "__class__") "object.__class__" && isBI (PySem.W.specialIn K (.builtin "object.__class__") "__get__") "getset_descriptor.__get__" &&
  isOb (PySem.W.takesIn K (.builtin "object.__class__")) true && isOb (PySem.W.mroIn K C (.type "object")) true
/-- tags of types -/
inductive Tag where
  | b (n : String)
  | c (x : Str)
  deriving DecidableEq
def Tag.val (K : PySem.W.Frag) : Tag → Value
  | .b n => .type n
  | .c x => .ref (He.ga K x)
def isi : Tag → Tag → Bool
  | .b m, .b n => m == n || (m == "bool" && n == "int")
  | .c x, .c y => x == y
  | _, _ => false
def baseTags : List Tag := [.b "NoneType", .b "int", .b "bool", .b "str", .b "list", .b "tuple", .b "dict"]
def tagsOf (p : Px) : List Tag := baseTags ++ p.cls.map .c
def kitB (p : Px) (K : PySem.W.Frag) : Bool := (tagsOf p).all fun t => (tagsOf p).all fun u => isOb (PySem.W.kitOne K (t.val K) (u.val K)) (isi t u)
def exsB (p : Px) (K : PySem.W.Frag) : Bool := p.exs.all fun x => oexB K (He.ga K x) && xfB K (He.ga K x) && (p.exs.all fun y => isOb (PySem.W.exmOne K (.ref (He.ga K x)) (.ref (He.ga K y))) (x == y))
def initB (p : Px) (K : PySem.W.Frag) : Bool := p.ds.all fun d => match d.at_ with
  | (x, some m) => if p.exs.contains x && (m == ("__init__" : Str)) then isRf (PySem.W.findIn K (.ref (He.ga K x)) "__init__") (He.fAd K d.at_) && isTy (PySem.W.typeIn K (.ref (He.fAd K d.at_))) "function" else true
  | _ => true
def faOf (p : Px) : List He.Fa := p.free.map .free ++ p.txts.map (fun q => .str q.1 q.2) ++ p.cls.map .glo ++ p.exs.map .glo ++ p.cls.map .cls ++ p.noat.map (fun q => .noat q.1 q.2) ++
  p.ds.flatMap (fun d => match d.at_ with
    | (x, none) => [.glo x]
    | (x, some m) => if p.cls.contains x then (if m == ("__init__" : Str) then [.meth x m, .mkr x] else [.meth x m]) else [])
def moreB (p : Px) (K : PySem.W.Frag) : Bool := (p.cls.all fun c => insB K (He.ga K c)) && kitB p K && exsB p K && initB p K
abbrev AlP : Type := Bool × He.AlD
def obsP (p : Px) (K : PySem.W.Frag) : AlP := (moreB p K, He.obsD (faOf p) p.ds K)
def obsPG (n : Nat) (p : Px) (g : Addr → Option Obj) : AlP := obsP p (He.frG g (He.asD g n))
def hookP (n : Nat) (p : Px) : PySem.W.Hook where
  α := AlP
  obs := fun s => obsPG n p s.heap.get?
  val := fun _ => (true, He.valD p.ds)
  says := fun _ h => ∃ K : PySem.W.Frag, K.In h ∧ obsP p K = (true, He.valD p.ds)
  of := fun _ _ e => ⟨_, He.frG_in, e⟩
  keeps := fun _ _ _ ⟨K, hK, c⟩ k => ⟨K, PySem.W.Frag.In.keeps hK k, c⟩
theorem obsPG_eq {n : Nat} {p : Px} {g : Addr → Option Obj} {s : Shared} (h : ∀ a, g a = s.heap.get? a) : obsPG n p g = (hookP n p).obs s := by
  have e : g = s.heap.get? := funext h
  rw [e] <;> rfl
/-- further facts that the reading's proofs ask -/
structure Gm (p : Px) (K : PySem.W.Frag) : Prop where
  kit : ∀ t ∈ tagsOf p, ∀ u ∈ tagsOf p, PySem.W.kitOne K (t.val K) (u.val K) = some (isi t u)
  ins : ∀ c, p.cls.contains c = true → insB K (He.ga K c) = true
  exm : ∀ x y, p.exs.contains x = true → p.exs.contains y = true → PySem.W.exmOne K (.ref (He.ga K x)) (.ref (He.ga K y)) = some (x == y)
section
variable {p : Px} {K : PySem.W.Frag} {h : Heap} {mg : Str → Option Value}
theorem says_fa (c : obsP p K = (true, He.valD p.ds)) {f : He.Fa} (hf : f ∈ faOf p) : f.ok K = true := by
  have c2 : He.SaysD (faOf p) p.ds K := congrArg (fun z : AlP => z.2) c
  obtain ⟨i, hi⟩ := List.getElem?_of_mem hf
  exact c2.fact i hi
theorem gm_of (c : obsP p K = (true, He.valD p.ds)) : Gm p K := by
  have m : moreB p K = true := congrArg (fun z : AlP => z.1) c
  unfold moreB at m
  simp only [Bool.and_eq_true] at m
  obtain ⟨⟨⟨m1, m2⟩, m3⟩, m4⟩ := m
  refine ⟨fun t ht u hu => ?_, fun c hc => List.all_eq_true.mp m1 c (by simpa using hc), fun x y hx hy => ?_⟩
  · exact isOb_ok (List.all_eq_true.mp (List.all_eq_true.mp m2 t ht) u hu)
  · have q := List.all_eq_true.mp m3 x (by simpa using hx)
    simp only [Bool.and_eq_true] at q
    exact isOb_ok (List.all_eq_true.mp q.2 y (by simpa using hy))
theorem gd_of (X : K.In h) (G : h.Ns mainGlobals mg) (c : obsP p K = (true, He.valD p.ds)) : Gd p K mg := by
  have c2 : He.SaysD (faOf p) p.ds K := congrArg (fun z : AlP => z.2) c
  have m : moreB p K = true := congrArg (fun z : AlP => z.1) c
  unfold moreB at m
  simp only [Bool.and_eq_true] at m
  obtain ⟨⟨⟨m1, m2⟩, m3⟩, m4⟩ := m
  have f : ∀ {x : He.Fa}, x ∈ faOf p → x.ok K = true := fun hx => says_fa c hx
  have inMeth : ∀ {d : He.DefD} {cc n : Str}, d ∈ p.ds → d.at_ = (cc, some n) → p.cls.contains cc = true → He.Fa.meth cc n ∈ faOf p := fun {d cc n} hd ha hc => by
    unfold faOf
    refine List.mem_append_right _ (List.mem_flatMap.mpr ⟨d, hd, ?_⟩)
    rw [ha]
    dsimp only
    rw [if_pos hc]
    split <;> simp
  refine { txt := fun x z hx => ?_, free := fun x hx => ?_, gcl := fun x hx => ?_, cl := fun x hx => ?_, def_ := fun i d hd => c2.def_ i hd, fng := fun i d x hd ha => ?_, mth := fun i d cc n hd ha hc => ?_, mkr := fun i d cc hd ha hc => ?_, ex := fun i d x hd ha hx => ?_, xf := fun x hx => ?_, noat := fun x ff hx => ?_ }
  · refine He.str_ok X G (f ?_)
    unfold faOf
    have hm : (x, z) ∈ p.txts := by
      have gen : ∀ l : List (Str × Str), l.lookup x = some z → (x, z) ∈ l := by
        intro l
        induction l with
        | nil => intro h; cases h
        | cons q r ih =>
          intro h
          rw [List.lookup_cons] at h
          cases e : (x == q.1) with
          | true =>
            rw [e] at h
            have hz := Option.some.inj h
            have hx := beq_iff_eq.mp e
            rw [← hz, hx]
            exact List.mem_cons_self
          | false =>
            rw [e] at h
            exact List.mem_cons_of_mem _ (ih h)
      exact gen _ hx
    simp only [List.mem_append, List.mem_map]
    exact .inl (.inl (.inl (.inl (.inl (.inr ⟨_, hm, rfl⟩)))))
  · refine He.free_ok X G (f ?_)
    unfold faOf
    simp only [List.mem_append, List.mem_map]
    exact .inl (.inl (.inl (.inl (.inl (.inl ⟨x, by simpa using hx, rfl⟩)))))
  · refine He.glo_ok X G (f ?_)
    unfold faOf
    simp only [List.mem_append, List.mem_map]
    rcases (Bool.or_eq_true _ _).mp hx with hx | hx
    · exact .inl (.inl (.inl (.inl (.inr ⟨x, by simpa using hx, rfl⟩))))
    · exact .inl (.inl (.inl (.inr ⟨x, by simpa using hx, rfl⟩)))
  · refine He.cls_ok (f ?_)
    unfold faOf
    simp only [List.mem_append, List.mem_map]
    exact .inl (.inl (.inr ⟨x, by simpa using hx, rfl⟩))
  · have hm : He.Fa.glo x ∈ faOf p := by
      unfold faOf
      refine List.mem_append_right _ (List.mem_flatMap.mpr ⟨d, List.mem_of_getElem? hd, ?_⟩)
      rw [ha]
      simp
    have q := He.glo_ok X G (f hm)
    rw [ha]
    exact q
  · have q := He.meth_ok (f (inMeth (List.mem_of_getElem? hd) ha hc))
    rw [ha]
    exact q
  · have hm : He.Fa.mkr cc ∈ faOf p := by
      unfold faOf
      refine List.mem_append_right _ (List.mem_flatMap.mpr ⟨d, List.mem_of_getElem? hd, ?_⟩)
      rw [ha]
      dsimp only
      rw [if_pos hc]
      simp
    have q := He.mkr_ok (f hm)
    rw [ha]
    exact q
  · have q := List.all_eq_true.mp m3 x (by simpa using hx)
    simp only [Bool.and_eq_true] at q
    have r := List.all_eq_true.mp m4 d (List.mem_of_getElem? hd)
    rw [ha] at r ⊢
    dsimp only at r
    rw [if_pos (by rw [hx] <;> rfl)] at r
    obtain ⟨r1, r2⟩ := Bool.and_eq_true_iff.mp r
    exact ⟨oexB_ok q.1.1, isRf_ok r1, isTy_ok r2⟩
  · have q := List.all_eq_true.mp m3 x (by simpa using hx)
    simp only [Bool.and_eq_true] at q
    exact xfB_ok q.1.2
  · have hm : He.Fa.noat x ff ∈ faOf p := by
      unfold faOf
      simp only [List.mem_append, List.mem_map]
      exact .inl (.inr ⟨(x, ff), by simpa using hx, rfl⟩)
    exact He.noat_ok (f hm)
end
end PL
set_option Elab.async false
set_option linter.all false
set_option maxRecDepth 100000
set_option maxHeartbeats 4000000
/-! Trees with owned nodes: what a value is, without the heap. -/
namespace PL
open PySem PySem.Spec PyProof.Rows L2

inductive Kd where
  | lst | dct (ks : List Key) | obj (C : Str) (fs : List Str) | xd (fs : List Str)
inductive T where
  | un | lf (v : V) | cls (x : Str) | scr (ns : List Int)
  | cel (w : HO)
  | tup (ts : List T)
  | nd (k : Kd) (o : Bool) (ts : List T)
mutual
/-- let go of every owned node -/
def fz : T → T
  | .tup ts => .tup (fzs ts)
  | .nd k o ts => if o = true then .nd k false (fzs ts) else .nd k false ts
  | .cel _ => .un
  | .un => .un
  | .lf v => .lf v
  | .cls x => .cls x
  | .scr ns => .scr ns
def fzs : List T → List T
  | [] => []
  | t :: r => fz t :: fzs r
end
mutual
/-- an owned node stands in it -/
def ow : T → Bool
  | .tup ts => ows ts
  | .nd _ o _ => o
  | .cel _ => true
  | _ => false
def ows : List T → Bool
  | [] => false
  | t :: r => ow t || ows r
end
abbrev Ow := Addr → Nat
def z0 : Ow := fun _ => 0
def one (p : Addr) : Ow := fun x => if x = p then 1 else 0
def pl (a b : Ow) : Ow := fun x => a x + b x
def cellOf (K : PySem.W.Frag) : Kd → List V → HO → Prop
  | .lst, vs, u => u = .lst vs
  | .dct ks, vs, u => ks.length = vs.length ∧ u = .dK (ks.zip vs)
  | .obj C fs, vs, u => fs.length = vs.length ∧ ∃ dx, u = .ins (He.ga K C) dx (fs.zip vs)
  | .xd fs, vs, u => fs.length = vs.length ∧ u = .xd (fs.zip vs)
/-- how a node that nobody owns stands -/
def Rk (H : Hp) (p : Addr) : Kd → HO → Prop
  | .dct _, w => Rd H p w
  | _, w => H p = some w
mutual
def rep (K : PySem.W.Frag) (H : Hp) (M : Ow) : T → Ow → Option V → Prop
  | .un, O, _ => O = z0
  | .lf v, O, u => u = some v ∧ O = z0
  | .cls x, O, u => u = some (.ref (He.ga K x)) ∧ O = z0
  | .scr ns, O, u => (∃ a, u = some (.ref a) ∧ ((Rd H a (.lst (ns.map V.int)) ∧ M a = 0) ∨ ∀ H', SqL K H' a (ns.map V.int))) ∧ O = z0
  | .cel w, O, u => ∃ p, u = some (.ref p) ∧ O = one p ∧ H p = some w
  | .tup ts, O, u => ∃ p vs, u = some (.ref p) ∧ H p = some (.tup vs) ∧ M p = 0 ∧ reps K H M ts O (vs.map some)
  | .nd k o ts, O, u => ∃ p vs w, u = some (.ref p) ∧ cellOf K k vs w ∧
      ((o = true ∧ H p = some w ∧ ∃ O', O = pl (one p) O' ∧ reps K H M ts O' (vs.map some)) ∨ (o = false ∧ Rk H p k w ∧ M p = 0 ∧ O = z0 ∧ reps K H M ts z0 (vs.map some)))
def reps (K : PySem.W.Frag) (H : Hp) (M : Ow) : List T → Ow → List (Option V) → Prop
  | [], O, us => O = z0 ∧ us = []
  | t :: ts, O, us => ∃ O1 O2 u us', O = pl O1 O2 ∧ us = u :: us' ∧ rep K H M t O1 u ∧ reps K H M ts O2 us'
end
/-! ### counting -/
theorem pl_z {a : Ow} : pl a z0 = a := by funext x; simp [pl, z0]
theorem z_pl {a : Ow} : pl z0 a = a := by funext x; simp [pl, z0]
theorem pl_assoc {a b c : Ow} : pl (pl a b) c = pl a (pl b c) := by funext x; simp [pl, Nat.add_assoc]
theorem pl_comm {a b : Ow} : pl a b = pl b a := by funext x; simp [pl, Nat.add_comm]
theorem pl_left {a b c : Ow} : pl a (pl b c) = pl b (pl a c) := by funext x; simp only [pl]; omega
theorem pl_eq_z {a b : Ow} (h : pl a b = z0) : a = z0 ∧ b = z0 := by
  refine ⟨funext fun x => ?_, funext fun x => ?_⟩ <;> have e := congrFun h x <;> simp only [pl, z0] at e ⊢ <;> omega
theorem one_same {p : Addr} : one p p = 1 := by simp [one]
theorem one_ne {p x : Addr} (h : x ≠ p) : one p x = 0 := by simp [one, h]
/-! ### what is not owned counts nothing -/
mutual
theorem rep_ow {K : PySem.W.Frag} {H : Hp} {M : Ow} : ∀ {t : T} {O : Ow} {u : Option V}, ow t = false → rep K H M t O u → O = z0
  | .un, _, _, _, h => h
  | .lf _, _, _, _, h => h.2
  | .cls _, _, _, _, h => h.2
  | .scr _, _, _, _, h => h.2
  | .cel _, _, _, e, _ => by cases e
  | .tup ts, _, _, e, h => by
    obtain ⟨p, vs, _, _, _, r⟩ := h
    exact reps_ow (ts := ts) e r
  | .nd k o ts, _, _, e, h => by
    obtain ⟨p, vs, w, _, _, q⟩ := h
    rcases q with ⟨e2, _⟩ | ⟨_, _, _, z, _⟩
    · rw [show ow (.nd k o ts) = o from rfl, e2] at e; cases e
    · exact z
theorem reps_ow {K : PySem.W.Frag} {H : Hp} {M : Ow} : ∀ {ts : List T} {O : Ow} {us : List (Option V)}, ows ts = false → reps K H M ts O us → O = z0
  | [], _, _, _, h => h.1
  | t :: ts, _, _, e, h => by
    obtain ⟨O1, O2, u, us', rfl, _, h1, h2⟩ := h
    obtain ⟨e1, e2⟩ := Bool.or_eq_false_iff.mp (show (ow t || ows ts) = false from e)
    rw [rep_ow e1 h1, reps_ow e2 h2, pl_z]
end
/-! ### letting go -/
mutual
theorem rep_fz {K : PySem.W.Frag} {H : Hp} {M M' : Ow} (hm : ∀ x, M x = 0 → M' x = 0) : ∀ {t : T} {O : Ow} {u : Option V}, (∀ x, O x ≠ 0 → M' x = 0) → rep K H M t O u → rep K H M' (fz t) z0 u
  | .un, _, _, _, h => by
    unfold fz rep
    rfl
  | .lf _, _, _, _, h => by
    unfold fz
    exact ⟨h.1, rfl⟩
  | .cls _, _, _, _, h => by
    unfold fz
    exact ⟨h.1, rfl⟩
  | .scr _, _, _, _, h => by
    unfold fz
    obtain ⟨⟨a, e, q⟩, _⟩ := h
    exact ⟨⟨a, e, q.imp (fun z => ⟨z.1, hm a z.2⟩) id⟩, rfl⟩
  | .cel _, _, _, _, _ => by
    unfold fz rep
    rfl
  | .tup ts, _, _, hz, h => by
    obtain ⟨p, vs, e, hp, z, r⟩ := h
    unfold fz
    exact ⟨p, vs, e, hp, hm p z, reps_fz hm hz r⟩
  | .nd k o ts, O, _, hz, h => by
    obtain ⟨p, vs, w, e, c, q⟩ := h
    rcases q with ⟨e2, hp, O', eO, r⟩ | ⟨e2, hp, z, eO, r⟩
    · subst e2 eO
      unfold fz
      rw [if_pos rfl]
      refine ⟨p, vs, w, e, c, .inr ⟨rfl, ?_, hz p ?_, rfl, reps_fz hm (fun x hx => hz x ?_) r⟩⟩
      · cases k <;> first | exact hp | exact .inl hp
      · simp [pl, one_same]
      · simp only [pl]; omega
    · subst e2 eO
      unfold fz
      rw [if_neg (by decide)]
      have r' : reps K H M' (fzs ts) z0 (vs.map some) → reps K H M' ts z0 (vs.map some) := fun _ => reps_mono0 hm r
      exact ⟨p, vs, w, e, c, .inr ⟨rfl, hp, hm p z, rfl, reps_mono0 hm r⟩⟩
theorem reps_fz {K : PySem.W.Frag} {H : Hp} {M M' : Ow} (hm : ∀ x, M x = 0 → M' x = 0) : ∀ {ts : List T} {O : Ow} {us : List (Option V)}, (∀ x, O x ≠ 0 → M' x = 0) → reps K H M ts O us → reps K H M' (fzs ts) z0 us
  | [], _, _, _, h => ⟨rfl, h.2⟩
  | t :: ts, _, _, hz, h => by
    obtain ⟨O1, O2, u, us', rfl, e, h1, h2⟩ := h
    unfold fzs
    exact ⟨z0, z0, u, us', pl_z.symm, e, rep_fz hm (fun x hx => hz x (by simp only [pl]; omega)) h1, reps_fz hm (fun x hx => hz x (by simp only [pl]; omega)) h2⟩
theorem rep_mono0 {K : PySem.W.Frag} {H : Hp} {M M' : Ow} (hm : ∀ x, M x = 0 → M' x = 0) : ∀ {t : T} {O : Ow} {u : Option V}, rep K H M t O u → rep K H M' t O u
  | .un, _, _, h => h
  | .lf _, _, _, h => h
  | .cls _, _, _, h => h
  | .scr _, _, _, h => by
    obtain ⟨⟨a, e, q⟩, o⟩ := h
    exact ⟨⟨a, e, q.imp (fun z => ⟨z.1, hm a z.2⟩) id⟩, o⟩
  | .cel _, _, _, h => h
  | .tup ts, _, _, h => by
    obtain ⟨p, vs, e, hp, z, r⟩ := h
    exact ⟨p, vs, e, hp, hm p z, reps_mono0 hm r⟩
  | .nd k o ts, O, _, h => by
    obtain ⟨p, vs, w, e, c, q⟩ := h
    rcases q with ⟨e2, hp, O', eO, r⟩ | ⟨e2, hp, z, eO, r⟩
    · exact ⟨p, vs, w, e, c, .inl ⟨e2, hp, O', eO, reps_mono0 hm r⟩⟩
    · exact ⟨p, vs, w, e, c, .inr ⟨e2, hp, hm p z, eO, reps_mono0 hm r⟩⟩
theorem reps_mono0 {K : PySem.W.Frag} {H : Hp} {M M' : Ow} (hm : ∀ x, M x = 0 → M' x = 0) : ∀ {ts : List T} {O : Ow} {us : List (Option V)}, reps K H M ts O us → reps K H M' ts O us
  | [], _, _, h => h
  | t :: ts, _, _, h => by
    obtain ⟨O1, O2, u, us', e1, e, h1, h2⟩ := h
    exact ⟨O1, O2, u, us', e1, e, rep_mono0 hm h1, reps_mono0 hm h2⟩
end
/-! ### another heap -/
/-- x keeps its thing, a dict's lock apart -/
def Lk (H' : Hp) (x : Addr) (w : HO) : Prop := H' x = some w ∨ (∃ kvs o, w = .dK kvs ∧ H' x = some (.frz o w)) ∨ ∃ kvs o, w = .frz o (.dK kvs) ∧ H' x = some (.dK kvs)
structure Mv (H : Hp) (M : Ow) (H' : Hp) (M' : Ow) : Prop where
  fr : ∀ x w, H x = some w → M x = 0 → M' x = 0 ∧ Lk H' x w
theorem Mv.plain {H H' : Hp} {M M' : Ow} (m : Mv H M H' M') {p : Addr} {w : HO} (h : H p = some w) (z : M p = 0) (nd : ∀ kvs, w ≠ .dK kvs) (nf : ∀ o kvs, w ≠ .frz o (.dK kvs)) : H' p = some w := by
  rcases (m.fr p w h z).2 with q | ⟨kvs, o, e, _⟩ | ⟨kvs, o, e, _⟩
  · exact q
  · exact absurd e (nd kvs)
  · exact absurd e (nf o kvs)
theorem Mv.rd {H H' : Hp} {M M' : Ow} (m : Mv H M H' M') {p : Addr} {kvs : List (Key × V)} (h : Rd H p (.dK kvs)) (z : M p = 0) : Rd H' p (.dK kvs) := by
  rcases h with h | ⟨o, h⟩
  · rcases (m.fr p _ h z).2 with q | ⟨_, o, _, q⟩ | ⟨_, _, e, _⟩
    · exact .inl q
    · exact .inr ⟨o, q⟩
    · cases e
  · rcases (m.fr p _ h z).2 with q | ⟨_, _, e, _⟩ | ⟨_, _, e, q⟩
    · exact .inr ⟨o, q⟩
    · cases e
    · cases e
      exact .inl q
theorem Mv.rk {K : PySem.W.Frag} {H H' : Hp} {M M' : Ow} (m : Mv H M H' M') {p : Addr} {k : Kd} {vs : List V} {w : HO} (c : cellOf K k vs w) (h : Rk H p k w) (z : M p = 0) : Rk H' p k w := by
  cases k with
  | lst => subst c; exact m.plain h z (fun _ => nofun) fun _ _ => nofun
  | dct ks => obtain ⟨_, rfl⟩ := c; exact m.rd h z
  | obj C fs => obtain ⟨_, dx, rfl⟩ := c; exact m.plain h z (fun _ => nofun) fun _ _ => nofun
  | xd fs => obtain ⟨_, rfl⟩ := c; exact m.plain h z (fun _ => nofun) fun _ _ => nofun
mutual
theorem rep_mv {K : PySem.W.Frag} {H H' : Hp} {M M' : Ow} (m : Mv H M H' M') : ∀ {t : T} {O : Ow} {u : Option V}, (∀ x, O x ≠ 0 → H' x = H x) → rep K H M t O u → rep K H' M' t O u
  | .un, _, _, _, h => h
  | .lf _, _, _, _, h => h
  | .cls _, _, _, _, h => h
  | .scr _, _, _, _, h => by
    obtain ⟨⟨a, e, q⟩, o⟩ := h
    refine ⟨⟨a, e, q.imp (fun z => ?_) id⟩, o⟩
    rcases z.1 with h | ⟨ob, h⟩
    · exact ⟨.inl (m.plain h z.2 (fun _ => nofun) fun _ _ => nofun), (m.fr a _ h z.2).1⟩
    · exact ⟨.inr ⟨ob, m.plain h z.2 (fun _ => nofun) fun _ _ q => by cases q⟩, (m.fr a _ h z.2).1⟩
  | .cel _, _, _, k, h => by
    obtain ⟨p, e, eO, hp⟩ := h
    subst eO
    exact ⟨p, e, rfl, by rw [k p (by simp [one_same])]; exact hp⟩
  | .tup ts, _, _, k, h => by
    obtain ⟨p, vs, e, hp, z, r⟩ := h
    exact ⟨p, vs, e, m.plain hp z (fun _ => nofun) fun _ _ => nofun, (m.fr p _ hp z).1, reps_mv m k r⟩
  | .nd kd o ts, O, _, k, h => by
    obtain ⟨p, vs, w, e, c, q⟩ := h
    rcases q with ⟨e2, hp, O', eO, r⟩ | ⟨e2, hp, z, eO, r⟩
    · subst eO
      exact ⟨p, vs, w, e, c, .inl ⟨e2, by rw [k p (by simp [pl, one_same])]; exact hp, O', rfl, reps_mv m (fun x hx => k x (by simp only [pl]; omega)) r⟩⟩
    · subst eO
      have z' : M' p = 0 := by
        cases kd with
        | dct ks => rcases hp with hp | ⟨o, hp⟩ <;> exact (m.fr p _ hp z).1
        | lst => exact (m.fr p _ hp z).1
        | obj C fs => exact (m.fr p _ hp z).1
        | xd fs => exact (m.fr p _ hp z).1
      exact ⟨p, vs, w, e, c, .inr ⟨e2, m.rk c hp z, z', rfl, reps_mv m (fun x hx => absurd rfl hx) r⟩⟩
theorem reps_mv {K : PySem.W.Frag} {H H' : Hp} {M M' : Ow} (m : Mv H M H' M') : ∀ {ts : List T} {O : Ow} {us : List (Option V)}, (∀ x, O x ≠ 0 → H' x = H x) → reps K H M ts O us → reps K H' M' ts O us
  | [], _, _, _, h => h
  | t :: ts, _, _, k, h => by
    obtain ⟨O1, O2, u, us', rfl, e, h1, h2⟩ := h
    exact ⟨O1, O2, u, us', rfl, e, rep_mv m (fun x hx => k x (by simp only [pl]; omega)) h1, reps_mv m (fun x hx => k x (by simp only [pl]; omega)) h2⟩
end
end PL
set_option Elab.async false
set_option linter.all false
set_option maxRecDepth 100000
set_option maxHeartbeats 4000000
namespace PL
open PySem PySem.Spec PyProof.Rows L2

/-- the frame: ρ reads the slots, l the values in hand; F stands for others (R: what they own) -/
def In (K : PySem.W.Frag) (F : Addr → Option HO) (R : Ow) (H : Hp) (ρ : List T) (σ : L2.St) (l : List (T × V)) : Prop :=
  ∃ O1 O2, (∀ x, R x + (O1 x + O2 x) ≤ 1) ∧ (∀ x, R x ≠ 0 → F x ≠ none) ∧ (∀ x u, F x = some u → H x = some u ∧ O1 x + O2 x = 0) ∧ (∀ x, O1 x + O2 x ≠ 0 → H x ≠ none) ∧
    reps K H (pl R (pl O1 O2)) ρ O1 σ ∧ reps K H (pl R (pl O1 O2)) (l.map (·.1)) O2 (l.map fun p => some p.2)
section
variable {K : PySem.W.Frag} {H H' : Hp} {M M' : Ow}
theorem reps_len : ∀ {ts : List T} {O : Ow} {us : List (Option V)}, reps K H M ts O us → us.length = ts.length
  | [], _, _, h => by rw [h.2] <;> rfl
  | t :: ts, _, _, h => by
    obtain ⟨O1, O2, u, us', _, rfl, _, h2⟩ := h
    simp [reps_len h2]
theorem reps_app : ∀ {a b : List T} {O : Ow} {us ws : List (Option V)}, us.length = a.length → (reps K H M (a ++ b) O (us ++ ws) ↔ ∃ O1 O2, O = pl O1 O2 ∧ reps K H M a O1 us ∧ reps K H M b O2 ws)
  | [], b, O, us, ws, hl => by
    have : us = [] := List.length_eq_zero_iff.mp hl
    subst this
    refine ⟨fun h => ⟨z0, O, z_pl.symm, ⟨rfl, rfl⟩, h⟩, fun ⟨O1, O2, e, h1, h2⟩ => ?_⟩
    obtain ⟨rfl, _⟩ := h1
    rw [e, z_pl]
    exact h2
  | t :: a, b, O, us, ws, hl => by
    cases us with
    | nil => cases hl
    | cons u us =>
      have hl' : us.length = a.length := by simpa using hl
      refine ⟨fun h => ?_, fun ⟨O1, O2, e, h1, h2⟩ => ?_⟩
      · obtain ⟨O1, O2, u', us', rfl, e, h1, h2⟩ := h
        cases e
        obtain ⟨P1, P2, rfl, q1, q2⟩ := (reps_app hl').mp h2
        exact ⟨pl O1 P1, P2, pl_assoc.symm, ⟨O1, P1, _, _, rfl, rfl, h1, q1⟩, q2⟩
      · obtain ⟨P1, P2, u', us', rfl, e2, q1, q2⟩ := h1
        cases e2
        exact ⟨P1, pl P2 O2, _, _, by rw [e, pl_assoc], rfl, q1, (reps_app hl').mpr ⟨P2, O2, rfl, q2, h2⟩⟩
theorem reps_get : ∀ {ts : List T} {O : Ow} {us : List (Option V)} {i : Nat} {t : T}, reps K H M ts O us → ts[i]? = some t → ∃ u O1 O2, us[i]? = some u ∧ O = pl O1 O2 ∧ rep K H M t O1 u ∧ ∀ (t' : T) (u' : Option V) (P : Ow), rep K H M t' P u' → reps K H M (ts.set i t') (pl P O2) (us.set i u')
  | [], _, _, _, _, _, e => by simp at e
  | t :: ts, _, _, 0, t0, h, e => by
    obtain ⟨O1, O2, u, us', rfl, rfl, h1, h2⟩ := h
    have e' : t = t0 := by simpa using e
    subst e'
    exact ⟨u, O1, O2, rfl, rfl, h1, fun t' u' P hp => ⟨P, O2, u', us', rfl, rfl, hp, h2⟩⟩
  | t :: ts, _, _, i + 1, t0, h, e => by
    obtain ⟨O1, O2, u, us', rfl, rfl, h1, h2⟩ := h
    obtain ⟨w, P1, P2, e1, rfl, q1, q2⟩ := reps_get (i := i) h2 (by simpa using e)
    exact ⟨w, P1, pl O1 P2, by simpa using e1, pl_left, q1, fun t' u' P hp => ⟨O1, pl P P2, u, _, pl_left, rfl, h1, q2 t' u' P hp⟩⟩
theorem reps_set : ∀ {ts : List T} {O : Ow} {us : List (Option V)} (i : Nat) (t : T) (u : Option V) (P : Ow), reps K H M ts O us → rep K H M t P u → ∃ O' Q, reps K H M (ts.set i t) O' (us.set i u) ∧ pl O' Q = pl P O
  | [], O, us, _, _, _, P, h, _ => by
    obtain ⟨rfl, rfl⟩ := h
    exact ⟨z0, P, ⟨rfl, rfl⟩, by rw [z_pl, pl_z]⟩
  | t :: ts, _, _, 0, t', u', P, h, hp => by
    obtain ⟨O1, O2, u, us', rfl, rfl, h1, h2⟩ := h
    exact ⟨pl P O2, O1, ⟨P, O2, u', us', rfl, rfl, hp, h2⟩, by funext x; simp only [pl]; omega⟩
  | t :: ts, _, _, i + 1, t', u', P, h, hp => by
    obtain ⟨O1, O2, u, us', rfl, rfl, h1, h2⟩ := h
    obtain ⟨O', Q, r, e⟩ := reps_set i t' u' P h2 hp
    exact ⟨pl O1 O', Q, ⟨O1, O', u, _, rfl, rfl, h1, r⟩, by rw [pl_assoc, e, pl_left]⟩
theorem reps_perm {l l' : List (T × V)} (p : l.Perm l') : ∀ {O : Ow}, reps K H M (l.map (·.1)) O (l.map fun p => some p.2) → reps K H M (l'.map (·.1)) O (l'.map fun p => some p.2) := by
  induction p with
  | nil => exact fun h => h
  | cons x _ ih =>
    intro O h
    obtain ⟨O1, O2, u, us', rfl, e, h1, h2⟩ := h
    cases e
    exact ⟨O1, O2, _, _, rfl, rfl, h1, ih h2⟩
  | swap x y l =>
    intro O h
    obtain ⟨O1, O2, u, us', rfl, e, h1, h2⟩ := h
    cases e
    obtain ⟨P1, P2, u, us', rfl, e, q1, q2⟩ := h2
    cases e
    exact ⟨P1, pl O1 P2, _, _, pl_left, rfl, q1, O1, P2, _, _, rfl, rfl, h1, q2⟩
  | trans _ _ ih1 ih2 => exact fun h => ih2 (ih1 h)
end
section
variable {K : PySem.W.Frag} {F : Addr → Option HO} {R : Ow} {H : Hp} {ρ : List T} {σ : L2.St} {l l' : List (T × V)} {t : T} {v : V}
theorem in_perm (p : l.Perm l') (h : In K F R H ρ σ l) : In K F R H ρ σ l' := by
  obtain ⟨O1, O2, a, b, c, d, e, f⟩ := h
  exact ⟨O1, O2, a, b, c, d, e, reps_perm p f⟩
/-- owning less -/
theorem in_less {O1 O2 : Ow} {ρ' : List T} {σ' : L2.St} {P1 P2 : Ow} (a : ∀ x, R x + (O1 x + O2 x) ≤ 1) (b : ∀ x, R x ≠ 0 → F x ≠ none) (c : ∀ x u, F x = some u → H x = some u ∧ O1 x + O2 x = 0) (d : ∀ x, O1 x + O2 x ≠ 0 → H x ≠ none)
    (le : ∀ x, P1 x + P2 x ≤ O1 x + O2 x) (e : reps K H (pl R (pl P1 P2)) ρ' P1 σ') (f : reps K H (pl R (pl P1 P2)) (l'.map (·.1)) P2 (l'.map fun p => some p.2)) : In K F R H ρ' σ' l' := by
  refine ⟨P1, P2, fun x => ?_, b, fun x u hx => ?_, fun x hx => ?_, e, f⟩
  · have := a x; have := le x; omega
  · obtain ⟨c1, c2⟩ := c x u hx
    have := le x
    exact ⟨c1, by omega⟩
  · have := le x; exact d x (by omega)
theorem m_less {O1 O2 P1 P2 : Ow} (le : ∀ x, P1 x + P2 x ≤ O1 x + O2 x) : ∀ x, (pl R (pl O1 O2)) x = 0 → (pl R (pl P1 P2)) x = 0 := fun x h => by
  have := le x
  simp only [pl] at h ⊢
  omega
theorem in_drop (h : In K F R H ρ σ ((t, v) :: l)) : In K F R H ρ σ l := by
  obtain ⟨O1, O2, a, b, c, d, e, f⟩ := h
  obtain ⟨P1, P2, u, us, rfl, e2, f1, f2⟩ := f
  cases e2
  have le : ∀ x, O1 x + P2 x ≤ O1 x + (pl P1 P2) x := fun x => by simp only [pl]; omega
  exact in_less a b c d le (reps_mono0 (m_less le) e) (reps_mono0 (m_less le) f2)
theorem in_drops : ∀ {k : List (T × V)}, In K F R H ρ σ (k ++ l) → In K F R H ρ σ l
  | [], h => h
  | (_, _) :: k, h => in_drops (k := k) (in_drop h)
theorem in_fz (h : In K F R H ρ σ ((t, v) :: l)) : In K F R H ρ σ ((fz t, v) :: l) := by
  obtain ⟨O1, O2, a, b, c, d, e, f⟩ := h
  obtain ⟨P1, P2, u, us, rfl, e2, f1, f2⟩ := f
  cases e2
  have le : ∀ x, O1 x + P2 x ≤ O1 x + (pl P1 P2) x := fun x => by simp only [pl]; omega
  refine in_less a b c d le (reps_mono0 (m_less le) e) ⟨z0, P2, _, _, z_pl.symm, rfl, rep_fz (m_less le) (fun x hx => ?_) f1, reps_mono0 (m_less le) f2⟩
  have := a x
  simp only [pl] at this ⊢
  omega
theorem in_dup (ho : ow t = false) (h : In K F R H ρ σ ((t, v) :: l)) : In K F R H ρ σ ((t, v) :: (t, v) :: l) := by
  obtain ⟨O1, O2, a, b, c, d, e, f⟩ := h
  obtain ⟨P1, P2, u, us, rfl, e2, f1, f2⟩ := f
  cases e2
  have z := rep_ow ho f1
  subst z
  exact ⟨O1, _, a, b, c, d, e, z0, _, _, _, z_pl.symm, rfl, f1, z0, P2, _, _, rfl, rfl, f1, f2⟩
def isUn : T → Bool
  | .un => true
  | _ => false
theorem rep_some {M O : Ow} {u : Option V} (h : rep K H M t O u) (hn : isUn t = false) : ∃ v, u = some v := by
  cases t with
  | un => cases hn
  | lf v => exact ⟨_, h.1⟩
  | cls x => exact ⟨_, h.1⟩
  | scr ns => obtain ⟨⟨a, e, _⟩, _⟩ := h; exact ⟨_, e⟩
  | cel w => obtain ⟨p, e, _⟩ := h; exact ⟨_, e⟩
  | tup ts => obtain ⟨p, vs, e, _⟩ := h; exact ⟨_, e⟩
  | nd k o ts => obtain ⟨p, vs, w, e, _⟩ := h; exact ⟨_, e⟩
theorem set_same {α : Type} : ∀ {us : List α} {i : Nat} {u : α}, us[i]? = some u → us.set i u = us
  | [], _, _, h => by simp at h
  | a :: us, 0, u, h => by simp at h; subst h; rfl
  | a :: us, i + 1, u, h => by simp [set_same (us := us) (i := i) (u := u) (by simpa using h)]
theorem in_take {i : Nat} (ht : ρ[i]? = some t) (hn : isUn t = false) (h : In K F R H ρ σ l) : ∃ v, σ[i]? = some (some v) ∧ In K F R H (ρ.set i .un) σ ((t, v) :: l) := by
  obtain ⟨O1, O2, a, b, c, d, e, f⟩ := h
  obtain ⟨u, P1, P2, eu, rfl, r, k⟩ := reps_get e ht
  obtain ⟨v, rfl⟩ := rep_some r hn
  refine ⟨v, eu, ?_⟩
  have q := k .un (some v) z0 rfl
  rw [set_same eu, z_pl] at q
  have em : pl R (pl (pl P1 P2) O2) = pl R (pl P2 (pl P1 O2)) := by funext x; simp only [pl]; omega
  rw [em] at q r f
  refine ⟨P2, pl P1 O2, fun x => ?_, b, fun x u hx => ?_, fun x hx => d x ?_, q, P1, O2, _, _, rfl, rfl, r, f⟩
  · have := a x; simp only [pl] at this ⊢; omega
  · have := c x u hx; simp only [pl] at this ⊢; exact ⟨this.1, by omega⟩
  · simp only [pl] at hx ⊢; omega
theorem in_put (i : Nat) (h : In K F R H ρ σ ((t, v) :: l)) : In K F R H (ρ.set i t) (σ.set i (some v)) l := by
  obtain ⟨O1, O2, a, b, c, d, e, f⟩ := h
  obtain ⟨P1, P2, u, us, rfl, e2, f1, f2⟩ := f
  cases e2
  obtain ⟨O', Q, r, eq⟩ := reps_set i t (some v) P1 e f1
  have le : ∀ x, O' x + P2 x ≤ O1 x + (pl P1 P2) x := fun x => by
    have := congrFun eq x
    simp only [pl] at this ⊢
    omega
  exact in_less a b c d le (reps_mono0 (m_less le) r) (reps_mono0 (m_less le) f2)
theorem in_put' {i : Nat} (hs : σ[i]? = some (some v)) (h : In K F R H ρ σ ((t, v) :: l)) : In K F R H (ρ.set i t) σ l := by
  have q := in_put i h
  rwa [set_same hs] at q
theorem in_get {i : Nat} (ht : ρ[i]? = some t) (hn : isUn t = false) (ho : ow t = false) (h : In K F R H ρ σ l) : ∃ v, σ[i]? = some (some v) ∧ In K F R H ρ σ ((t, v) :: l) := by
  obtain ⟨v, hs, q⟩ := in_take ht hn h
  refine ⟨v, hs, ?_⟩
  have q2 := in_put' (i := i) hs (in_dup ho q)
  rwa [List.set_set, set_same ht] at q2
theorem in_wipe (i : Nat) (h : In K F R H ρ σ l) : In K F R H ρ (σ.set i none) l ∨ True := .inr trivial
/-- what slot i is read as may be forgotten -/
theorem in_un {i : Nat} (u : Option V) (h : In K F R H ρ σ l) : In K F R H (ρ.set i .un) (σ.set i u) l := by
  obtain ⟨O1, O2, a, b, c, d, e, f⟩ := h
  obtain ⟨O', Q, r, eq⟩ := reps_set i .un u z0 e rfl
  have le : ∀ x, O' x + O2 x ≤ O1 x + O2 x := fun x => by
    have := congrFun eq x
    simp only [pl, z0] at this ⊢
    omega
  exact in_less a b c d le (reps_mono0 (m_less le) r) (reps_mono0 (m_less le) f)
theorem in_len (h : In K F R H ρ σ l) : σ.length = ρ.length := by
  obtain ⟨O1, O2, a, b, c, d, e, f⟩ := h
  exact reps_len e
theorem in_alloc {p : Addr} (w : HO) (hp : H p = none) (h : In K F R H ρ σ l) : In K F R (upd H p w) ρ σ ((.cel w, .ref p) :: l) := by
  obtain ⟨O1, O2, a, b, c, d, e, f⟩ := h
  have o0 : O1 p + O2 p = 0 := by
    by_cases q : O1 p + O2 p = 0
    · exact q
    · exact absurd hp (d p q)
  have r0 : R p = 0 := by
    by_cases q : R p = 0
    · exact q
    · obtain ⟨u, hu⟩ := Option.ne_none_iff_exists'.mp (b p q)
      have := (c p u hu).1
      rw [hp] at this
      cases this
  have ne : ∀ {x : Addr} {w' : HO}, H x = some w' → x ≠ p := fun hx e => by rw [e, hp] at hx; cases hx
  have mv : Mv H (pl R (pl O1 O2)) (upd H p w) (pl R (pl O1 (pl (one p) O2))) := ⟨fun x w' hx z => by
    refine ⟨?_, .inl (by rw [upd_ne (ne hx)]; exact hx)⟩
    have := one_ne (ne hx)
    simp only [pl] at z ⊢
    omega⟩
  refine ⟨O1, pl (one p) O2, fun x => ?_, b, fun x u hx => ?_, fun x hx => ?_, reps_mv mv (fun x hx => upd_ne fun e => ?_) e, one p, O2, _, _, rfl, rfl, ⟨p, rfl, rfl, upd_same⟩, reps_mv mv (fun x hx => upd_ne fun e => ?_) f⟩
  · by_cases q : x = p
    · subst q; simp only [pl, one_same]; omega
    · have := a x; simp only [pl, one_ne q]; omega
  · obtain ⟨h1, h2⟩ := c x u hx
    refine ⟨by rw [upd_ne (ne h1)]; exact h1, ?_⟩
    simp only [pl, one_ne (ne h1)]; omega
  · by_cases q : x = p
    · subst q; rw [upd_same]; simp
    · rw [upd_ne q]; apply d; simp only [pl, one_ne q] at hx; omega
  · subst e; omega
  · subst e; omega
theorem in_cel {w : HO} (h : In K F R H ρ σ ((.cel w, v) :: l)) : ∃ p, v = .ref p ∧ H p = some w := by
  obtain ⟨O1, O2, a, b, c, d, e, f⟩ := h
  obtain ⟨P1, P2, u, us, rfl, e2, ⟨p, e3, _, hp⟩, f2⟩ := f
  cases e2
  exact ⟨p, Option.some.inj e3, hp⟩
theorem in_write {p : Addr} {w : HO} (w' : HO) (h : In K F R H ρ σ ((.cel w, .ref p) :: l)) : In K F R (upd H p w') ρ σ ((.cel w', .ref p) :: l) := by
  obtain ⟨O1, O2, a, b, c, d, e, f⟩ := h
  obtain ⟨P1, P2, u, us, rfl, e2, ⟨p', e3, rfl, hp⟩, f2⟩ := f
  cases e2
  cases e3
  have ap := a p
  simp only [pl, one_same] at ap
  have mv : Mv H (pl R (pl O1 (pl (one p) P2))) (upd H p w') (pl R (pl O1 (pl (one p) P2))) := ⟨fun x w2 hx z => by
    have ne : x ≠ p := fun e => by subst e; simp only [pl, one_same] at z; omega
    exact ⟨z, .inl (by rw [upd_ne ne]; exact hx)⟩⟩
  refine ⟨O1, pl (one p) P2, a, b, fun x u hx => ?_, fun x hx => ?_, reps_mv mv (fun x hx => upd_ne fun e => ?_) e, one p, P2, _, _, rfl, rfl, ⟨p, rfl, rfl, upd_same⟩, reps_mv mv (fun x hx => upd_ne fun e => ?_) f2⟩
  · obtain ⟨h1, h2⟩ := c x u hx
    have ne : x ≠ p := fun e => by subst e; simp only [pl, one_same] at h2; omega
    exact ⟨by rw [upd_ne ne]; exact h1, h2⟩
  · by_cases q : x = p
    · subst q; rw [upd_same]; simp
    · rw [upd_ne q]; exact d x hx
  · subst e; omega
  · subst e; omega
theorem in_close {k : Kd} {w : HO} {cs : List (T × V)} (hc : cellOf K k (cs.map (·.2)) w) (h : In K F R H ρ σ ((.cel w, v) :: cs ++ l)) : In K F R H ρ σ ((.nd k true (cs.map (·.1)), v) :: l) := by
  obtain ⟨O1, O2, a, b, c, d, e, f⟩ := h
  obtain ⟨P1, P2, u, us, rfl, e2, ⟨p, e3, rfl, hp⟩, f2⟩ := f
  cases e2
  cases e3
  change reps _ _ _ ((cs ++ l).map _) P2 ((cs ++ l).map _) at f2
  rw [List.map_append, List.map_append] at f2
  obtain ⟨Q1, Q2, rfl, g1, g2⟩ := (reps_app (by simp)).mp f2
  refine ⟨O1, _, a, b, c, d, e, pl (one p) Q1, Q2, _, _, pl_assoc.symm, rfl, ⟨p, _, w, rfl, hc, .inl ⟨rfl, hp, Q1, rfl, ?_⟩⟩, g2⟩
  rw [List.map_map]
  exact g1
theorem in_tup {cs : List (T × V)} (h : In K F R H ρ σ ((.cel (.tup (cs.map (·.2))), v) :: cs ++ l)) : In K F R H ρ σ ((.tup (cs.map (·.1)), v) :: l) := by
  obtain ⟨O1, O2, a, b, c, d, e, f⟩ := h
  obtain ⟨P1, P2, u, us, rfl, e2, ⟨p, e3, rfl, hp⟩, f2⟩ := f
  cases e2
  cases e3
  change reps _ _ _ ((cs ++ l).map _) P2 ((cs ++ l).map _) at f2
  rw [List.map_append, List.map_append] at f2
  obtain ⟨Q1, Q2, rfl, g1, g2⟩ := (reps_app (by simp)).mp f2
  have le : ∀ x, O1 x + (pl Q1 Q2) x ≤ O1 x + (pl (one p) (pl Q1 Q2)) x := fun x => by simp only [pl]; omega
  refine in_less a b c d le (reps_mono0 (m_less le) e) ⟨Q1, Q2, _, _, rfl, rfl, ⟨p, _, rfl, hp, ?_, ?_⟩, reps_mono0 (m_less le) g2⟩
  · have := a p
    simp only [pl, one_same] at this ⊢
    omega
  · rw [List.map_map]
    exact reps_mono0 (m_less le) g1
theorem pairs_of {M : Ow} : ∀ {ts : List T} {O : Ow} {vs : List V}, reps K H M ts O (vs.map some) → ∃ cs : List (T × V), cs.map (·.1) = ts ∧ cs.map (·.2) = vs ∧ reps K H M (cs.map (·.1)) O (cs.map fun p => some p.2)
  | ts, O, vs, h => by
    have hl := reps_len h
    rw [List.length_map] at hl
    have e1 : (ts.zip vs).map (·.1) = ts := List.map_fst_zip (by omega)
    have e2 : (ts.zip vs).map (·.2) = vs := List.map_snd_zip (by omega)
    refine ⟨ts.zip vs, e1, e2, ?_⟩
    have e3 : ((ts.zip vs).map fun p => some p.2) = vs.map some := by
      rw [show ((ts.zip vs).map fun p => some p.2) = ((ts.zip vs).map (·.2)).map some from by rw [List.map_map] <;> rfl, e2]
    rw [e1, e3]
    exact h
theorem in_open {k : Kd} {ts : List T} (h : In K F R H ρ σ ((.nd k true ts, v) :: l)) : ∃ p cs w, v = .ref p ∧ cs.map (·.1) = ts ∧ cellOf K k (cs.map (·.2)) w ∧ H p = some w ∧ In K F R H ρ σ ((.cel w, .ref p) :: cs ++ l) := by
  obtain ⟨O1, O2, a, b, c, d, e, f⟩ := h
  obtain ⟨P1, P2, u, us, rfl, e2, ⟨p, vs, w, e3, hc, q⟩, f2⟩ := f
  cases e2
  cases e3
  rcases q with ⟨_, hp, O', rfl, r⟩ | ⟨q, _⟩
  · obtain ⟨cs, e1, e2, r2⟩ := pairs_of r
    subst e1 e2
    refine ⟨p, cs, w, rfl, rfl, hc, hp, O1, _, a, b, c, d, e, one p, pl O' P2, _, _, pl_assoc, rfl, ⟨p, rfl, rfl, hp⟩, ?_⟩
    change reps _ _ _ ((cs ++ l).map _) _ ((cs ++ l).map _)
    rw [List.map_append, List.map_append]
    exact (reps_app (by simp)).mpr ⟨O', P2, rfl, r2, f2⟩
  · cases q
theorem in_openT {ts : List T} (h : In K F R H ρ σ ((.tup ts, v) :: l)) : ∃ p cs, v = .ref p ∧ cs.map (·.1) = ts ∧ H p = some (.tup (cs.map (·.2))) ∧ In K F R H ρ σ (cs ++ l) := by
  obtain ⟨O1, O2, a, b, c, d, e, f⟩ := h
  obtain ⟨P1, P2, u, us, rfl, e2, ⟨p, vs, e3, hp, z, r⟩, f2⟩ := f
  cases e2
  cases e3
  obtain ⟨cs, e1, e2, r2⟩ := pairs_of r
  subst e1 e2
  refine ⟨p, cs, rfl, rfl, hp, O1, _, a, b, c, d, e, ?_⟩
  change reps _ _ _ ((cs ++ l).map _) _ ((cs ++ l).map _)
  rw [List.map_append, List.map_append]
  exact (reps_app (by simp)).mpr ⟨P1, P2, rfl, r2, f2⟩
theorem in_ice {k : Kd} {ts : List T} (h : In K F R H ρ σ ((.nd k false ts, v) :: l)) : ∃ p cs w, v = .ref p ∧ cs.map (·.1) = ts ∧ cellOf K k (cs.map (·.2)) w ∧ Rk H p k w ∧ In K F R H ρ σ (cs ++ (.nd k false ts, v) :: l) := by
  obtain ⟨O1, O2, a, b, c, d, e, f⟩ := h
  obtain ⟨P1, P2, u, us, rfl, e2, f1, f2⟩ := f
  cases e2
  obtain ⟨p, vs, w, e3, hc, q⟩ := f1
  cases e3
  rcases q with ⟨q, _⟩ | ⟨_, hp, z, rfl, r⟩
  · cases q
  · obtain ⟨cs, e1, e2, r2⟩ := pairs_of r
    subst e1 e2
    refine ⟨p, cs, w, rfl, rfl, hc, hp, O1, _, a, b, c, d, e, ?_⟩
    change reps _ _ _ ((cs ++ (_, _) :: l).map _) _ ((cs ++ (_, _) :: l).map _)
    rw [List.map_append, List.map_append]
    exact (reps_app (by simp)).mpr ⟨z0, _, z_pl.symm, r2, z0, P2, _, _, rfl, rfl, ⟨p, _, w, rfl, hc, .inr ⟨rfl, hp, z, rfl, r⟩⟩, f2⟩
/-! ### calls -/
theorem in_env (h : In K F R H ρ σ l) : In K F R H [] [] l := by
  obtain ⟨O1, O2, a, b, c, d, e, f⟩ := h
  have le : ∀ x, z0 x + O2 x ≤ O1 x + O2 x := fun x => by simp only [z0]; omega
  exact in_less a b c d le ⟨rfl, rfl⟩ (reps_mono0 (m_less le) f)
/-- the callee's frame, and back -/
theorem in_call {as : List (T × V)} (h : In K F R H ρ σ (as ++ l)) : ∃ F' R', In K F' R' H (as.map (·.1)) (as.map fun p => some p.2) [] ∧ ∀ H' l', In K F' R' H' [] [] l' → In K F R H' ρ σ (l' ++ l) := by
  obtain ⟨O1, O2, a, b, c, d, e, f⟩ := h
  rw [List.map_append, List.map_append] at f
  obtain ⟨P1, P2, rfl, g1, g2⟩ := (reps_app (by simp)).mp f
  refine ⟨fun x => if P1 x = 0 then H x else none, pl R (pl O1 P2), ⟨P1, z0, fun x => ?_, fun x hx => ?_, fun x u hx => ?_, fun x hx => ?_, ?_, ⟨rfl, rfl⟩⟩, fun H' l' q => ?_⟩
  · have := a x; simp only [pl, z0] at this ⊢; omega
  · have ax := a x
    have : P1 x = 0 := by simp only [pl] at hx ax; omega
    simp only [this, if_true]
    by_cases r : R x = 0
    · apply d; simp only [pl] at hx ⊢; omega
    · obtain ⟨u, hu⟩ := Option.ne_none_iff_exists'.mp (b x r)
      rw [(c x u hu).1]; simp
  · by_cases z : P1 x = 0
    · simp only [z, if_true] at hx; exact ⟨hx, by simp [z, z0]⟩
    · simp only [z, if_false] at hx; cases hx
  · apply d; simp only [pl, z0] at hx ⊢; omega
  · have em : pl (pl R (pl O1 P2)) (pl P1 z0) = pl R (pl O1 (pl P1 P2)) := by funext x; simp only [pl, z0]; omega
    rw [em]; exact g1
  · obtain ⟨Q1, Q2, a', b', c', d', e', f'⟩ := q
    obtain ⟨rfl, _⟩ := e'
    have keep : ∀ x, P1 x = 0 → H x ≠ none → H' x = H x ∧ Q2 x = 0 := fun x z hx => by
      obtain ⟨u, hu⟩ := Option.ne_none_iff_exists'.mp hx
      have := c' x u (by simp only [z, if_true]; exact hu)
      exact ⟨by rw [this.1, hu], by have := this.2; simp only [z0] at this; omega⟩
    have em : pl (pl R (pl O1 P2)) (pl z0 Q2) = pl R (pl O1 (pl Q2 P2)) := by funext x; simp only [pl, z0]; omega
    rw [em] at f'
    have mv : Mv H (pl R (pl O1 (pl P1 P2))) H' (pl R (pl O1 (pl Q2 P2))) := ⟨fun x w hx z => by
      have hp : P1 x = 0 := by simp only [pl] at z; omega
      have k := keep x hp (by rw [hx]; simp)
      exact ⟨by simp only [pl] at z ⊢; omega, .inl (by rw [k.1, hx])⟩⟩
    refine ⟨O1, pl Q2 P2, fun x => ?_, b, fun x u hx => ?_, fun x hx => ?_, reps_mv mv (fun x hx => ?_) e, ?_⟩
    · have := a' x; simp only [pl, z0] at this ⊢; omega
    · obtain ⟨h1, h2⟩ := c x u hx
      have k := keep x (by simp only [pl] at h2; omega) (by rw [h1]; simp)
      exact ⟨by rw [k.1, h1], by simp only [pl] at h2 ⊢; omega⟩
    · by_cases z : Q2 x = 0
      · have ax := a x
        have hp : P1 x = 0 := by simp only [pl] at hx ax; omega
        have hn : H x ≠ none := d x (by simp only [pl] at hx ⊢; omega)
        rw [(keep x hp hn).1]; exact hn
      · exact d' x (by simp only [z0]; omega)
    · have ax := a x
      exact (keep x (by simp only [pl] at ax; omega) (d x (by omega))).1
    · rw [List.map_append, List.map_append]
      refine (reps_app (by simp)).mpr ⟨Q2, P2, rfl, f', reps_mv mv (fun x hx => ?_) g2⟩
      have ax := a x
      exact (keep x (by simp only [pl] at ax; omega) (d x (by simp only [pl]; omega))).1
/-- .. the arguments in hand -/
theorem in_call2 {as : List (T × V)} (h : In K F R H ρ σ (as ++ l)) : ∃ F' R', In K F' R' H [] [] as ∧ ∀ H' l', In K F' R' H' [] [] l' → In K F R H' ρ σ (l' ++ l) := by
  obtain ⟨O1, O2, a, b, c, d, e, f⟩ := h
  rw [List.map_append, List.map_append] at f
  obtain ⟨P1, P2, rfl, g1, g2⟩ := (reps_app (by simp)).mp f
  refine ⟨fun x => if P1 x = 0 then H x else none, pl R (pl O1 P2), ⟨z0, P1, fun x => ?_, fun x hx => ?_, fun x u hx => ?_, fun x hx => ?_, ⟨rfl, rfl⟩, ?_⟩, fun H' l' q => ?_⟩
  · have := a x; simp only [pl, z0] at this ⊢; omega
  · have ax := a x
    have : P1 x = 0 := by simp only [pl] at hx ax; omega
    simp only [this, if_true]
    by_cases r : R x = 0
    · apply d; simp only [pl] at hx ⊢; omega
    · obtain ⟨u, hu⟩ := Option.ne_none_iff_exists'.mp (b x r)
      rw [(c x u hu).1]; simp
  · by_cases z : P1 x = 0
    · simp only [z, if_true] at hx; exact ⟨hx, by simp [z, z0]⟩
    · simp only [z, if_false] at hx; cases hx
  · apply d; simp only [pl, z0] at hx ⊢; omega
  · have em : pl (pl R (pl O1 P2)) (pl z0 P1) = pl R (pl O1 (pl P1 P2)) := by funext x; simp only [pl, z0]; omega
    rw [em]; exact g1
  · obtain ⟨Q1, Q2, a', b', c', d', e', f'⟩ := q
    obtain ⟨rfl, _⟩ := e'
    have keep : ∀ x, P1 x = 0 → H x ≠ none → H' x = H x ∧ Q2 x = 0 := fun x z hx => by
      obtain ⟨u, hu⟩ := Option.ne_none_iff_exists'.mp hx
      have := c' x u (by simp only [z, if_true]; exact hu)
      exact ⟨by rw [this.1, hu], by have := this.2; simp only [z0] at this; omega⟩
    have em : pl (pl R (pl O1 P2)) (pl z0 Q2) = pl R (pl O1 (pl Q2 P2)) := by funext x; simp only [pl, z0]; omega
    rw [em] at f'
    have mv : Mv H (pl R (pl O1 (pl P1 P2))) H' (pl R (pl O1 (pl Q2 P2))) := ⟨fun x w hx z => by
      have hp : P1 x = 0 := by simp only [pl] at z; omega
      have k := keep x hp (by rw [hx]; simp)
      exact ⟨by simp only [pl] at z ⊢; omega, .inl (by rw [k.1, hx])⟩⟩
    refine ⟨O1, pl Q2 P2, fun x => ?_, b, fun x u hx => ?_, fun x hx => ?_, reps_mv mv (fun x hx => ?_) e, ?_⟩
    · have := a' x; simp only [pl, z0] at this ⊢; omega
    · obtain ⟨h1, h2⟩ := c x u hx
      have k := keep x (by simp only [pl] at h2; omega) (by rw [h1]; simp)
      exact ⟨by rw [k.1, h1], by simp only [pl] at h2 ⊢; omega⟩
    · by_cases z : Q2 x = 0
      · have ax := a x
        have hp : P1 x = 0 := by simp only [pl] at hx ax; omega
        have hn : H x ≠ none := d x (by simp only [pl] at hx ⊢; omega)
        rw [(keep x hp hn).1]; exact hn
      · exact d' x (by simp only [z0]; omega)
    · have ax := a x
      exact (keep x (by simp only [pl] at ax; omega) (d x (by omega))).1
    · rw [List.map_append, List.map_append]
      refine (reps_app (by simp)).mpr ⟨Q2, P2, rfl, f', reps_mv mv (fun x hx => ?_) g2⟩
      have ax := a x
      exact (keep x (by simp only [pl] at ax; omega) (d x (by simp only [pl]; omega))).1

theorem in_toenv {as : List (T × V)} (h : In K F R H [] [] as) : In K F R H (as.map (·.1)) (as.map fun p => some p.2) [] := by
  obtain ⟨O1, O2, a, b, c, d, e, f⟩ := h
  obtain ⟨rfl, _⟩ := e
  have em : pl R (pl z0 O2) = pl R (pl O2 z0) := by rw [z_pl, pl_z]
  rw [em] at f
  refine ⟨O2, z0, fun x => ?_, b, fun x u hx => ?_, fun x hx => ?_, f, ⟨rfl, rfl⟩⟩
  · have := a x; simp only [z0] at this ⊢; omega
  · have := c x u hx; simp only [z0] at this ⊢; exact ⟨this.1, by omega⟩
  · apply d; simp only [z0] at hx ⊢; omega
theorem reps_alt {M : Ow} : ∀ {ts : List T} {O : Ow} {us us' : List (Option V)}, us'.length = us.length → (∀ (i : Nat) (t : T), ts[i]? = some t → isUn t = false → us[i]? = us'[i]?) → reps K H M ts O us → reps K H M ts O us'
  | [], O, us, us', hl, _, h => by
    obtain ⟨rfl, rfl⟩ := h
    exact ⟨rfl, List.length_eq_zero_iff.mp hl⟩
  | t :: ts, O, us, us', hl, k, h => by
    obtain ⟨O1, O2, u, ur, rfl, rfl, h1, h2⟩ := h
    cases us' with
    | nil => cases hl
    | cons u' ur' =>
      refine ⟨O1, O2, u', ur', rfl, rfl, ?_, reps_alt (us := ur) (by simpa using hl) (fun i t ht hu => by simpa using k (i + 1) t (by simpa using ht) hu) h2⟩
      by_cases e : isUn t = true
      · cases t with
        | un => exact h1
        | _ => cases e
      · have := k 0 t rfl (by simpa using e)
        simp only [List.getElem?_cons_zero, Option.some.injEq] at this
        rwa [← this]
/-- what an unknown slot holds does not matter -/
theorem in_alt {σ' : L2.St} (hl : σ'.length = σ.length) (k : ∀ (i : Nat) (t : T), ρ[i]? = some t → isUn t = false → σ[i]? = σ'[i]?) (h : In K F R H ρ σ l) : In K F R H ρ σ' l := by
  obtain ⟨O1, O2, a, b, c, d, e, f⟩ := h
  exact ⟨O1, O2, a, b, c, d, reps_alt hl k e, f⟩
end
end PL
set_option Elab.async false
set_option linter.all false
set_option maxRecDepth 100000
set_option maxHeartbeats 4000000
/-! The small language over trees: its own reading. -/
namespace PL
open PySem PySem.Spec PyProof.Rows L2

abbrev Ev := List T
abbrev T.i (n : Int) : T := .lf (.int n)
abbrev T.s (x : Str) : T := .lf (.str x)
abbrev T.b (k : Bool) : T := .lf (.bl k)
abbrev T.n : T := .lf .non
def keyT : Key → T
  | .inl i => .i i
  | .inr x => .s x
def toKey : T → Option Key
  | .lf (.int i) => some (.inl i)
  | .lf (.str x) => some (.inr x)
  | _ => none
/-! ### looks -/
def okAt (p : Px) (C f : Str) : Bool := p.cls.contains C && p.noat.contains (C, f)
def fldT (p : Px) (f : Str) : T → Option T
  | .nd (.obj C fs) _ ts => if okAt p C f = true then (fs.zip ts).lookup f else none
  | _ => none
def dgetT (ks : List Key) (ts : List T) (k : Key) : Option T := ((ks.zip ts).find? fun kv => decide (kv.1 = k)).map (·.2)
def idxT : T → T → Option T
  | .nd .lst _ ts, .lf (.int i) => atI ts i
  | .tup ts, .lf (.int i) => atI ts i
  | .lf (.str z), .lf (.int i) => if z.length ≤ sizeLine then (atI z.cps.toList i).map fun c => T.s ⟨#[c]⟩ else none
  | .nd (.dct ks) _ ts, k => (toKey k).bind fun k => dgetT ks ts k
  | _, _ => none
def quiet : Ex → Bool
  | .var _ | .int _ | .bl _ | .non | .str _ | .cls _ | .ty _ => true
  | .attr o _ => quiet o
  | .idx o i => quiet o && quiet i
  | .neg (.int _) => true
  | .lst [] => true
  | _ => false
def cq (p : Px) : Ex → Ev → Option T
  | .var i, ρ => (ρ[i]?).bind fun t => if isUn t = true then none else some t
  | .int i, _ => some (.i i)
  | .bl b, _ => some (.b b)
  | .non, _ => some .n
  | .str x, _ => some (.s x)
  | .cls x, _ => some (.cls x)
  | .ty n, _ => some (.lf (.ty n))
  | .neg (.int i), _ => some (.i (-i))
  | .lst [], _ => some (.nd .lst true [])
  | .attr o f, ρ => (cq p o ρ).bind fun t => (fldT p f t).bind fun u => if isUn u = true then none else some u
  | .idx o i, ρ => (cq p o ρ).bind fun t => (cq p i ρ).bind fun k => (idxT t k).bind fun u => if isUn u = true then none else some u
  | _, _ => none
mutual
def pdOf : T → Option PyData
  | .lf .non => some .none
  | .lf (.bl b) => some (.bool b)
  | .lf (.int i) => some (.int i)
  | .lf (.str x) => some (.str x)
  | .tup ts => (pdsOf ts).map .tuple
  | .nd .lst _ ts => (pdsOf ts).map .list
  | _ => none
def pdsOf : List T → Option (List PyData)
  | [] => some []
  | t :: r => (pdOf t).bind fun d => (pdsOf r).map fun ds => d :: ds
end
def truT : T → Option Bool
  | .lf .non => some false
  | .lf (.bl b) => some b
  | .lf (.int i) => some (i != 0)
  | .lf (.str y) => if y.length ≤ sizeLine then some ((y.length : Int) != 0) else none
  | .nd .lst _ ts => some !ts.isEmpty
  | .tup ts => some !ts.isEmpty
  | .nd (.dct ks) true _ => some !ks.isEmpty
  | _ => none
def lenT : T → Option Nat
  | .lf (.str y) => if y.length ≤ sizeLine then some y.length else none
  | .nd .lst _ ts => some ts.length
  | .tup ts => some ts.length
  | .nd (.dct ks) _ _ => some ks.length
  | _ => none
def tagOf : T → Option Tag
  | .lf .non => some (.b "NoneType")
  | .lf (.bl _) => some (.b "bool")
  | .lf (.int _) => some (.b "int")
  | .lf (.str _) => some (.b "str")
  | .tup _ => some (.b "tuple")
  | .nd .lst _ _ => some (.b "list")
  | .nd (.dct _) _ _ => some (.b "dict")
  | .nd (.obj C _) _ _ => some (.c C)
  | _ => none
def cls1 : Ex → Option Tag
  | .ty n => some (.b n)
  | .cls x => some (.c x)
  | _ => none
def clsOf : Ex → Option (List Tag)
  | .tup es => mapO cls1 es
  | e => (cls1 e).map fun t => [t]
def okTags (p : Px) (t : Tag) (us : List Tag) : Bool := ((tagsOf p).contains t && us.all fun u => (tagsOf p).contains u) && decide (us.length ≤ 100)
def flT : T → Option V
  | .lf v => if flatV v = true then some v else none
  | _ => none
def cutL {α : Type} (xs : List α) (lo hi : Option Int) : List α := (xs.drop (HT.sIx xs.length 0 lo)).take (HT.sIx xs.length xs.length hi - HT.sIx xs.length 0 lo)
/-! ### operators -/
def binT : Operator → T → T → (T → Prop) → Prop
  | .Add, .lf (.int i), .lf (.int j), Q => Q (.i (i + j))
  | .Add, .lf (.str i), .lf (.str j), Q => i.length + j.length ≤ sizeLine ∧ Q (.s (i ++ j))
  | .Add, .nd .lst _ ts, .nd .lst _ us, Q => ts.length + us.length ≤ sizeLine ∧ Q (.nd .lst true (ts ++ us))
  | .Add, .tup ts, .tup us, Q => ts.length + us.length ≤ sizeLine ∧ Q (.tup (ts ++ us))
  | .Sub, .lf (.int i), .lf (.int j), Q => Q (.i (i - j))
  | .Mult, .lf (.int i), .lf (.int j), Q => CMulW i j ∧ Q (.i (i * j))
  | .Mult, .nd .lst _ ts, .lf (.int k), Q => (-(2 ^ 63) ≤ k ∧ k < 2 ^ 63 ∧ ts.length * k.toNat ≤ sizeLine ∧ ows ts = false) ∧ Q (.nd .lst true (List.replicate k.toNat ts).flatten)
  | .FloorDiv, .lf (.int i), .lf (.int j), Q => CDivN i j ∧ Q (.i (i.fdiv j))
  | .Mod, .lf (.int i), .lf (.int j), Q => j ≠ 0 ∧ Q (.i (i.fmod j))
  | .Pow, .lf (.int i), .lf (.int j), Q => CPow i j ∧ Q (.i (i ^ j.toNat))
  | _, _, _, _ => False
def isT : T → T → Option Bool
  | .lf (.bl a), .lf (.bl b) => some (decide (a = b))
  | .lf v, .lf .non => some (decide (v = .non))
  | .cls _, .lf .non => some false
  | .scr _, .lf .non => some false
  | .tup _, .lf .non => some false
  | .nd _ _ _, .lf .non => some false
  | _, _ => none
def eqT (a b : T) : Option Bool := (pdOf a).bind fun d => (pdOf b).bind fun e => if (SeqAt.shaped d && SeqAt.shaped e) = true then some (PyData.eqv d e) else none
def inT (x : T) : T → Option Bool
  | .nd .lst _ ts => (pdOf x).bind fun d => (pdsOf ts).bind fun ds => if (SeqAt.shaped d && SeqAt.shaped (.list ds)) = true then some (ds.any fun z => PyData.eqv z d) else none
  | .tup ts => (flT x).bind fun v => (mapO flT ts).map fun vs => inV v vs
  | .lf (.str j) => match x with
    | .lf (.str i) => some (!(Builtin.Str.occurrences j i 0 j.length 1).isEmpty)
    | _ => none
  | .nd (.dct ks) _ ts => (toKey x).map fun k => (dgetT ks ts k).isSome
  | _ => none
def cmpT : CmpOp → T → T → Option Bool
  | .Eq, a, b => eqT a b
  | .NotEq, a, b => (eqT a b).map (!·)
  | .Lt, .lf (.int i), .lf (.int j) => some (decide (i < j))
  | .LtE, .lf (.int i), .lf (.int j) => some (decide (i ≤ j))
  | .Gt, .lf (.int i), .lf (.int j) => some (decide (j < i))
  | .GtE, .lf (.int i), .lf (.int j) => some (decide (j ≤ i))
  | .Is, a, b => isT a b
  | .IsNot, a, b => (isT a b).map (!·)
  | .In, a, b => inT a b
  | .NotIn, a, b => (inT a b).map (!·)
  | _, _, _ => none
def intsOf : List T → Option (List Int)
  | [] => some []
  | .lf (.int i) :: r => (intsOf r).map fun ns => i :: ns
  | _ => none
def boolsOf : List T → Option (List Bool)
  | [] => some []
  | .lf (.bl b) :: r => (boolsOf r).map fun ns => b :: ns
  | _ => none
def strsOf : List T → Option (List Str)
  | [] => some []
  | .lf (.str b) :: r => (strsOf r).map fun ns => b :: ns
  | _ => none
def bltT : Bl → T → (T → Prop) → Prop
  | .len, t, Q => ∃ n, lenT t = some n ∧ Q (.i n)
  | .list, .nd .lst _ ts, Q => ows ts = false ∧ Q (.nd .lst true ts)
  | .list, .tup ts, Q => ows ts = false ∧ Q (.nd .lst true ts)
  | .list, .scr ns, Q => Q (.nd .lst true (ns.map .i))
  | .list, .nd (.dct ks) _ _, Q => Q (.nd .lst true (ks.map keyT))
  | .tuple, .nd .lst _ ts, Q => ows ts = false ∧ Q (.tup ts)
  | .tuple, .tup ts, Q => ows ts = false ∧ Q (.tup ts)
  | .int, .lf (.int i), Q => Q (.i i)
  | .int, .lf (.bl k), Q => Q (.i (if k = true then 1 else 0))
  | .str, .lf (.int i), Q => i.natAbs.log2 < 1920 ∧ Q (.s (toString i))
  | .abs, .lf (.int i), Q => Q (.i (if i < 0 then -i else i))
  | .max, .nd .lst _ ts, Q => ∃ ns, intsOf ts = some ns ∧ 0 < ns.length ∧ ∀ m, m ∈ ns → (∀ y, y ∈ ns → y ≤ m) → Q (.i m)
  | .min, .nd .lst _ ts, Q => ∃ ns, intsOf ts = some ns ∧ 0 < ns.length ∧ ∀ m, m ∈ ns → (∀ y, y ∈ ns → m ≤ y) → Q (.i m)
  | .sum, .nd .lst _ ts, Q => ∃ ns, intsOf ts = some ns ∧ Q (.i ns.sum)
  | .all, .nd .lst _ ts, Q => ∃ bs, boolsOf ts = some bs ∧ Q (.b (bs.all id))
  | .any, .nd .lst _ ts, Q => ∃ bs, boolsOf ts = some bs ∧ Q (.b (bs.any id))
  | .sorted, .nd .lst _ ts, Q => (∃ ns, intsOf ts = some ns ∧ ns.length < 64 ∧ ∀ ns' : List Int, ns'.Perm ns → ns'.Pairwise (· ≤ ·) → Q (.nd .lst true (ns'.map .i))) ∨
      ∃ xs, strsOf ts = some xs ∧ xs.length < 64 ∧ ∀ ys : List Str, ys.Perm xs → sortedS ys = true → Q (.nd .lst true (ys.map .s))
  | _, _, _ => False
def blt2T : Bl → T → T → (T → Prop) → Prop
  | .max, .lf (.int i), .lf (.int j), Q => Q (.i (if j > i then j else i))
  | .min, .lf (.int i), .lf (.int j), Q => Q (.i (if j < i then j else i))
  | _, _, _, _ => False
def sliceT : T → Option Int → Option Int → (T → Prop) → Prop
  | .nd .lst _ ts, lo, hi, Q => ows ts = false ∧ Q (.nd .lst true (cutL ts lo hi))
  | .tup ts, lo, hi, Q => ows ts = false ∧ Q (.tup (cutL ts lo hi))
  | .lf (.str z), lo, hi, Q => z.length ≤ sizeLine ∧ Q (.s (cutS z lo hi))
  | _, _, _, _ => False
def isM1 : Mt → Bool
  | .append | .pop1 | .extend => true
  | _ => false
def isDct : T → Bool
  | .nd (.dct _) _ _ => true
  | _ => false
def isLst : T → Bool
  | .nd .lst _ _ => true
  | _ => false
/-- a list's method: the node behind it, what it tells -/
def mth0T : Mt → T → (T → T → Prop) → Prop
  | .pop0, .nd .lst true ts, Q => ∃ y, ts[ts.length - 1]? = some y ∧ Q (.nd .lst true ts.dropLast) y
  | _, _, _ => False
def mth1T : Mt → T → T → (T → T → Prop) → Prop
  | .append, .nd .lst true ts, t, Q => ts.length < sizeLine ∧ Q (.nd .lst true (ts ++ [t])) .n
  | .pop1, .nd .lst true ts, .lf (.int i), Q => ∃ k y, -(2 ^ 63) ≤ i ∧ i < 2 ^ 63 ∧ seqIndex? i ts.length = some k ∧ ts[k]? = some y ∧ Q (.nd .lst true (ts.eraseIdx k)) y
  | .extend, .nd .lst true ts, .nd .lst _ us, Q => ts.length + us.length ≤ sizeLine ∧ Q (.nd .lst true (ts ++ us)) .n
  | _, _, _, _ => False
def putDv {α : Type} : List Key → List α → Key → α → List α
  | y :: ks, x :: xs, k, t => (if y = k then t else x) :: putDv ks xs k t
  | _, _, _, _ => []
def putD {α : Type} (ks : List Key) (xs : List α) (k : Key) (t : α) : List Key × List α :=
  if (ks.any fun y => decide (y = k)) = true then (ks, putDv ks xs k t) else (ks ++ [k], xs ++ [t])
/-- o[i] = t -/
def setT : T → T → T → (T → Prop) → Prop
  | .nd .lst true ts, .lf (.int k), t, Q => ∃ j, ixN ts.length k = some j ∧ Q (.nd .lst true (ts.set j t))
  | .nd (.dct ks) true ts, k, t, Q => ∃ k', toKey k = some k' ∧ ks.length < sizeLine ∧ (ow t = false ∨ ks.Nodup) ∧ Q (.nd (.dct (putD ks ts k' t).1) true (putD ks ts k' t).2)
  | _, _, _, _ => False
def putFd {α : Type} (f : Str) (t : α) : List Str → List α → List Str × List α
  | g :: fs, x :: xs => if g = f then (g :: fs, t :: xs) else (g :: (putFd f t fs xs).1, x :: (putFd f t fs xs).2)
  | _, _ => ([f], [t])
/-- o.f = t -/
def setFT (p : Px) (f : Str) (t : T) : T → (T → Prop) → Prop
  | .nd (.obj C fs) true ts, Q => okAt p C f = true ∧ fs.length < 1000 ∧ Q (.nd (.obj C (putFd f t fs ts).1) true (putFd f t fs ts).2)
  | _, _ => False
def augT : Operator → T → T → (T → Prop) → Prop
  | .Add, .lf (.int i), .lf (.int j), Q => Q (.i (i + j))
  | .Add, .lf (.str i), .lf (.str j), Q => i.length + j.length ≤ sizeLine ∧ Q (.s (i ++ j))
  | .Sub, .lf (.int i), .lf (.int j), Q => Q (.i (i - j))
  | _, _, _, _ => False
/-! ### places -/
/-- the tree with t' at the place; every node on the way is owned -/
def cput (p : Px) : Ex → Ev → T → Option Ev
  | .var i, ρ, t' => some (ρ.set i t')
  | .attr o f, ρ, t' => match cq p o ρ with
    | some (.nd (.obj C fs) true ts) => (fs.findIdx? fun y => decide (y = f)).bind fun j => cput p o ρ (.nd (.obj C fs) true (ts.set j t'))
    | _ => none
  | .idx o i, ρ, t' => match cq p o ρ, cq p i ρ with
    | some (.nd .lst true ts), some (.lf (.int k)) => (ixN ts.length k).bind fun j => cput p o ρ (.nd .lst true (ts.set j t'))
    | some (.nd (.dct ks) true ts), some k => (toKey k).bind fun k => (ks.findIdx? fun y => decide (y = k)).bind fun j => cput p o ρ (.nd (.dct ks) true (ts.set j t'))
    | _, _ => none
  | _, _, _ => none
/-! ### arguments -/
inductive Ag where
  | v (i : Nat)
  | t (t : T)
def lend : List Ag → Ev → Option (List T × Ev)
  | [], ρ => some ([], ρ)
  | .t t :: r, ρ => (lend r ρ).map fun q => (t :: q.1, q.2)
  | .v i :: r, ρ => (ρ[i]?).bind fun t => if isUn t = true then none else (lend r (if ow t = true then ρ.set i .un else ρ)).map fun q => (t :: q.1, q.2)
def back : List Ag → List T → List T → Ev → Ev
  | .v i :: r, t :: ts, o :: os, ρ => back r ts os (if ow t = true then ρ.set i o else ρ)
  | .t _ :: r, _ :: ts, _ :: os, ρ => back r ts os ρ
  | _, _, _, ρ => ρ
def agT (a : Ag) (ρ : Ev) : Option T := match a with
  | .v i => ρ[i]?
  | .t t => some t
/-! ### stores -/
/-- the slots of a target -/
def tgSl : Tg → List Nat
  | .one i => [i]
  | .tup ts => tgSls ts
where tgSls : List Tg → List Nat
  | [] => []
  | t :: r => tgSl t ++ tgSls r
mutual
def bindT : Tg → T → Ev → (Ev → Prop) → Prop
  | .one i, t, ρ, Q => Q (ρ.set i t)
  | .tup gs, t, ρ, Q => match t with
    | .tup ts => ts.length = gs.length ∧ bindTs gs ts ρ Q
    | _ => False
def bindTs : List Tg → List T → Ev → (Ev → Prop) → Prop
  | [], _, ρ, Q => Q ρ
  | g :: gs, t :: ts, ρ, Q => bindT g t ρ fun ρ1 => bindTs gs ts ρ1 Q
  | _ :: _, [], _, _ => False
end
def enumT : Nat → List T → List T
  | _, [] => []
  | k, t :: r => .tup [.i k, t] :: enumT (k + 1) r
def zipT : List T → List T → List T
  | a :: r, b :: s => .tup [a, b] :: zipT r s
  | _, _ => []
def itemsT : Sk → List T → Option (List T)
  | .seq, [.nd .lst _ ts] => some ts
  | .seq, [.tup ts] => some ts
  | .seq, [.nd (.dct ks) _ _] => some (ks.map keyT)
  | .seq, [.lf (.str z)] => some (z.cps.toList.map fun c => .s ⟨#[c]⟩)
  | .rng1, [.lf (.int j)] => if -(2 ^ 62) ≤ j ∧ j < 2 ^ 62 then some ((List.range j.toNat).map fun (k : Nat) => T.i (k : Int)) else none
  | .rng2, [.lf (.int i), .lf (.int j)] => if -(2 ^ 62) ≤ i ∧ i < 2 ^ 62 ∧ -(2 ^ 62) ≤ j ∧ j < 2 ^ 62 then some ((List.range (j - i).toNat).map fun (k : Nat) => T.i (i + (k : Int))) else none
  | .enum, [.nd .lst _ ts] => some (enumT 0 ts)
  | .zip, [.nd .lst _ ts, .nd .lst _ us] => some (zipT ts us)
  | .zip, [.tup ts, .tup us] => some (zipT ts us)
  | _, _ => none
def arity : Sk → Nat
  | .seq | .rng1 | .enum => 1
  | .rng2 | .zip => 2
  | _ => 0
def okSk (k : Sk) (ss : List Ex) : Bool := decide (ss.length = arity k) && decide (arity k ≠ 0)
/-- the source is a slot with a dict -/
def dvar (k : Sk) (ss : List Ex) (ρ : Ev) : Bool := match k, ss with
  | .seq, [.var j] => (match ρ[j]? with
    | some t => isDct t
    | none => false)
  | _, _ => false
def isDct1 (ts : List T) : Bool := match ts with
  | [t] => isDct t
  | _ => false
def wipeE (ρ : Ev) : List Nat → Ev
  | [] => ρ
  | k :: ks => (wipeE ρ ks).set k .un
/-- the slots of a comprehension, as they stood -/
def resE (ρ0 : Ev) : List Nat → Ev → Ev
  | [], ρ => ρ
  | k :: ks, ρ => (resE ρ0 ks ρ).set k (if ow (ρ0.getD k .un) = true then .un else ρ0.getD k .un)
def lcLoop (step : T → List T → Ev → (List T → Ev → Prop) → Prop) : List T → List T → Ev → (List T → Ev → Prop) → Prop
  | [], acc, ρ, Q => Q acc ρ
  | t :: r, acc, ρ, Q => step t acc ρ fun acc1 ρ1 => lcLoop step r acc1 ρ1 Q
abbrev CF := Nat → List T → (T → List T → Prop) → (Str → T → Prop) → Prop
abbrev CE0 := Str → T → Ev → Prop
def noX : CE0 := fun _ _ _ => False
def isVarE : Ex → Option Nat
  | .var i => some i
  | _ => none
/-! ### expressions -/
mutual
/-- the slot stands in it -/
def men (i : Nat) : Ex → Bool
  | .var j => decide (j = i)
  | .int _ => false
  | .bl _ => false
  | .non => false
  | .str _ => false
  | .ty _ => false
  | .cls _ => false
  | .bin _ a b => men i a || men i b
  | .neg a => men i a
  | .not a => men i a
  | .and a b => men i a || men i b
  | .or a b => men i a || men i b
  | .ite c a b => men i c || men i a || men i b
  | .cmp _ a b => men i a || men i b
  | .chain _ _ a b c => men i a || men i b || men i c
  | .lst es => mens i es
  | .tup es => mens i es
  | .dct ks vs => mens i ks || mens i vs
  | .call _ es => mens i es
  | .new _ _ es => mens i es
  | .meth _ _ _ o es => men i o || mens i es
  | .blt _ es => mens i es
  | .mth _ o es => men i o || mens i es
  | .attr o _ => men i o
  | .idx o a => men i o || men i a
  | .slc o a b => men i o || men i a || men i b
  | .lc el _ _ ss cs _ => men i el || mens i ss || mens i cs
  | .dc _ _ _ _ _ _ _ => true
def mens (i : Nat) : List Ex → Bool
  | [] => false
  | e :: r => men i e || mens i r
end
def frzK (j : Nat) (ρ : Ev) (t : T) : Bool → Ev
  | true => ρ.set j (fz t)
  | false => ρ
def frzW (j : Nat) (ρ : Ev) (k : Bool) (t : T) : Bool → Ev
  | true => frzK j ρ t k
  | false => ρ
/-- an owned tree in the slot is let go -/
def frzS (j : Nat) (ρ : Ev) (k : Bool) : Option T → Ev
  | some t => frzW j ρ k t (ow t)
  | none => ρ
def preE (body : Nat → Bool) (ρ : Ev) : Option Nat → Ev
  | some j => frzS j ρ (body j) ρ[j]?
  | none => ρ
/-- what is walked while the body reads its slot is let go ahead of the walk -/
def pre (body : Nat → Bool) : List Ex → Ev → Ev
  | [], ρ => ρ
  | e :: r, ρ => pre body r (preE body ρ (isVarE e))
/-- what is read may be moved: nothing behind it reads it -/
def mvE (e : Ex) (r : List Ex) : Bool := match isVarE e with
  | some i => !mens i r
  | none => true
abbrev VE := CE0 → Bool → Ev → (T → Ev → Prop) → Prop
abbrev VT := CE0 → Ev → (Bool → Ev → Prop) → Prop
/-- a test by the value's truth -/
def mk2 (p : Px) (e : Ex) (v : VE) : VE × VT := (v, fun X ρ Q => if quiet e = true then ∃ t, cq p e ρ = some t ∧ ∃ k, truT t = some k ∧ Q k ρ else v X false ρ fun t ρ1 => ∃ k, truT t = some k ∧ Q k ρ1)
/-- an argument: a slot is lent -/
def agE (e : Ex) (v : Ev → (T → Ev → Prop) → Prop) (ρ : Ev) (Q : Ag → Ev → Prop) : Prop := match isVarE e with
  | some i => (∃ t, ρ[i]? = some t ∧ isUn t = false) ∧ Q (.v i) ρ
  | none => v ρ fun t ρ1 => Q (.t t) ρ1
def ptE (e : Ex) (v : Ev → (T → Ev → Prop) → Prop) (ρ : Ev) (Q : Option Int → Ev → Prop) : Prop := if isNon e = true then Q none ρ else v ρ fun t ρ1 => ∃ i, t = .i i ∧ Q (some i) ρ1
mutual
def c2 (p : Px) (Φ : CF) : Ex → VE × VT
  | .var i => mk2 p (.var i) (fun X m ρ Q => ∃ t, ρ[i]? = some t ∧ isUn t = false ∧ if ow t = true then (if m = true then Q t (ρ.set i .un) else Q (fz t) (ρ.set i (fz t))) else Q t ρ)
  | .int i => mk2 p (.int i) (fun X m ρ Q => Q (.i i) ρ)
  | .bl b => mk2 p (.bl b) (fun X m ρ Q => Q (.b b) ρ)
  | .non => mk2 p (.non) (fun X m ρ Q => Q .n ρ)
  | .str x => mk2 p (.str x) (fun X m ρ Q => Q (.s x) ρ)
  | .ty n => mk2 p (.ty n) (fun X m ρ Q => Q (.lf (.ty n)) ρ)
  | .cls x => mk2 p (.cls x) (fun X m ρ Q => Q (.cls x) ρ)
  | .bin op a b => mk2 p (.bin op a b) (fun X m ρ Q => (c2 p Φ a).1 X false ρ fun ta ρ1 => (c2 p Φ b).1 X false ρ1 fun tb ρ2 => binT op ta tb fun t => Q t ρ2)
  | .neg a => mk2 p (.neg a) (fun X m ρ Q => (c2 p Φ a).1 X false ρ fun t ρ1 => ∃ i, t = .i i ∧ Q (.i (-i)) ρ1)
  | .not a => (fun X m ρ Q => if quiet a = true then ∃ t, cq p a ρ = some t ∧ ∃ k, truT t = some k ∧ Q (.b (!k)) ρ else (c2 p Φ a).1 X false ρ fun t ρ1 => ∃ k, truT t = some k ∧ Q (.b (!k)) ρ1,
    fun X ρ Q => (c2 p Φ a).2 X ρ fun k ρ1 => Q (!k) ρ1)
  | .and a b => (fun X m ρ Q => (c2 p Φ a).1 X false ρ fun t ρ1 => ∃ k, truT t = some k ∧ if k = true then (c2 p Φ b).1 X false ρ1 Q else Q t ρ1,
    fun X ρ Q => (c2 p Φ a).2 X ρ fun k ρ1 => if k = true then (c2 p Φ b).2 X ρ1 Q else Q false ρ1)
  | .or a b => (fun X m ρ Q => (c2 p Φ a).1 X false ρ fun t ρ1 => ∃ k, truT t = some k ∧ if k = true then Q t ρ1 else (c2 p Φ b).1 X false ρ1 Q,
    fun X ρ Q => (c2 p Φ a).2 X ρ fun k ρ1 => if k = true then Q true ρ1 else (c2 p Φ b).2 X ρ1 Q)
  | .ite c a b => (fun X m ρ Q => (c2 p Φ c).2 X ρ fun k ρ1 => if k = true then (c2 p Φ a).1 X m ρ1 Q else (c2 p Φ b).1 X m ρ1 Q,
    fun X ρ Q => (c2 p Φ c).2 X ρ fun k ρ1 => if k = true then (c2 p Φ a).2 X ρ1 Q else (c2 p Φ b).2 X ρ1 Q)
  | .cmp op a b => mk2 p (.cmp op a b) (fun X m ρ Q => if (quiet a && quiet b) = true then ∃ ta tb, cq p a ρ = some ta ∧ cq p b ρ = some tb ∧ ∃ k, cmpT op ta tb = some k ∧ Q (.b k) ρ
      else (c2 p Φ a).1 X false ρ fun ta ρ1 => (c2 p Φ b).1 X false ρ1 fun tb ρ2 => ∃ k, cmpT op ta tb = some k ∧ Q (.b k) ρ2)
  | .chain o1 o2 a b c => mk2 p (.chain o1 o2 a b c) (fun X m ρ Q => (c2 p Φ a).1 X false ρ fun ta ρ1 => (c2 p Φ b).1 X false ρ1 fun tb ρ2 => ∃ k, cmpT o1 ta tb = some k ∧
      if k = true then (c2 p Φ c).1 X false ρ2 fun tc ρ3 => ∃ k2, cmpT o2 tb tc = some k2 ∧ Q (.b k2) ρ3 else Q (.b false) ρ2)
  | .lst es => mk2 p (.lst es) (fun X m ρ Q => cEs p Φ es X m ρ fun ts ρ1 => ts.length ≤ sizeLine ∧ Q (.nd .lst true ts) ρ1)
  | .tup es => mk2 p (.tup es) (fun X m ρ Q => cEs p Φ es X m ρ fun ts ρ1 => ts.length ≤ sizeLine ∧ Q (.tup ts) ρ1)
  | .dct ks vs => mk2 p (.dct ks vs) (fun X m ρ Q => if ks.isEmpty = true then Q (.nd (.dct []) true []) ρ else cDs p Φ ks (c1s p Φ vs) X ρ fun xs ts ρ1 => xs.Nodup ∧ xs.length ≤ 15 ∧ Q (.nd (.dct xs) true ts) ρ1)
  | .call f es => mk2 p (.call f es) (fun X m ρ Q => cAs p Φ es X ρ fun as ρ1 => ∃ ts ρ2, lend as ρ1 = some (ts, ρ2) ∧ Φ f ts (fun r os => Q r (back as ts os ρ2)) fun c t => X c t ρ2)
  | .new c f es => mk2 p (.new c f es) (fun X m ρ Q => cAs p Φ es X ρ fun as ρ1 => ∃ ts ρ2, lend as ρ1 = some (ts, ρ2) ∧ Φ f (.nd (.obj c []) true [] :: ts) (fun r os => r = .n ∧ ∃ o os', os = o :: os' ∧ isUn o = false ∧ Q o (back as ts os' ρ2)) fun c t => X c t ρ2)
  | .meth c mn f o es => mk2 p (.meth c mn f o es) (fun X m ρ Q => agE o ((c2 p Φ o).1 X false) ρ fun a ρ1 => (∃ fs b ts, agT a ρ1 = some (.nd (.obj c fs) b ts) ∧ fs.contains mn = false) ∧ cAs p Φ es X ρ1 fun as ρ2 => ∃ ts ρ3, lend (a :: as) ρ2 = some (ts, ρ3) ∧
      Φ f ts (fun r os => Q r (back (a :: as) ts os ρ3)) fun c t => X c t ρ3)
  | .blt b es => mk2 p (.blt b es) (fun X m ρ Q => match es with
    | [a] => if quiet a = true then ∃ t, cq p a ρ = some t ∧ bltT b t fun r => Q r ρ else (c2 p Φ a).1 X false ρ fun t ρ1 => bltT b (fz t) fun r => Q r ρ1
    | [a, c] => if b = .isinst then (if quiet a = true then ∃ t tg us, cq p a ρ = some t ∧ tagOf t = some tg ∧ clsOf c = some us ∧ okTags p tg us = true ∧ Q (.b (us.any (isi tg))) ρ
        else (c2 p Φ a).1 X false ρ fun t ρ1 => ∃ tg us, tagOf t = some tg ∧ clsOf c = some us ∧ okTags p tg us = true ∧ Q (.b (us.any (isi tg))) ρ1)
      else (c2 p Φ a).1 X false ρ fun ta ρ1 => (c2 p Φ c).1 X false ρ1 fun tb ρ2 => blt2T b ta tb fun r => Q r ρ2
    | _ => False)
  | .mth k o es => mk2 p (.mth k o es) (fun X m ρ Q => match es with
    | [] => ∃ t, cq p o ρ = some t ∧ mth0T k t fun t' r => ∃ ρ1, cput p o ρ t' = some ρ1 ∧ Q r ρ1
    | [e] => match isVarE o with
      | some j => (∃ t, ρ[j]? = some t ∧ isLst t = true) ∧ isM1 k = true ∧ (c2 p Φ e).1 X false ρ fun te ρ1 => ∃ t, ρ1[j]? = some t ∧ isUn t = false ∧ mth1T k t te fun t' r => Q r (ρ1.set j t')
      | none => ∃ te, quiet e = true ∧ cq p e ρ = some te ∧ ow te = false ∧ ∃ t, cq p o ρ = some t ∧ mth1T k t te fun t' r => ∃ ρ1, cput p o ρ t' = some ρ1 ∧ Q r ρ1
    | _ => False)
  | .attr o f => mk2 p (.attr o f) (fun X m ρ Q => if quiet o = true then ∃ t, cq p (.attr o f) ρ = some t ∧ ow t = false ∧ Q t ρ else (c2 p Φ o).1 X false ρ fun t ρ1 => ∃ u, fldT p f (fz t) = some u ∧ isUn u = false ∧ ow u = false ∧ Q u ρ1)
  | .idx o i => mk2 p (.idx o i) (fun X m ρ Q => match isVarE o with
    | some j => ∃ tj, ρ[j]? = some tj ∧ isUn tj = false ∧ (c2 p Φ i).1 X false ρ fun ti ρ1 => ∃ t0 t, ρ1[j]? = some t0 ∧ isUn t0 = false ∧ isDct t0 = isDct tj ∧ isUn t = false ∧ ow t = false ∧ ((idxT t0 ti = some t ∧ Q t ρ1) ∨ (idxT (fz t0) ti = some t ∧ Q t (ρ1.set j (fz t0))))
    | none => if (quiet o && quiet i) = true then ∃ t, cq p (.idx o i) ρ = some t ∧ ow t = false ∧ Q t ρ
        else (c2 p Φ o).1 X false ρ fun t0 ρ1 => (c2 p Φ i).1 X false ρ1 fun ti ρ2 => ∃ t, isDct t0 = false ∧ idxT (fz t0) ti = some t ∧ isUn t = false ∧ ow t = false ∧ Q t ρ2)
  | .slc o lo hi => mk2 p (.slc o lo hi) (fun X m ρ Q => match isVarE o with
    | some j => (∃ t, ρ[j]? = some t ∧ isUn t = false) ∧ (if isNon lo = true then ptE hi ((c2 p Φ hi).1 X false) ρ fun h ρ2 => ∃ t, ρ2[j]? = some t ∧ isUn t = false ∧ sliceT t none h fun r => Q r ρ2
        else (c2 p Φ lo).1 X false ρ fun tl ρ1 => ∃ l, tl = .i l ∧ ptE hi ((c2 p Φ hi).1 X false) ρ1 fun h ρ2 => ∃ t, ρ2[j]? = some t ∧ isUn t = false ∧ sliceT t (some l) h fun r => Q r ρ2)
    | none => (c2 p Φ o).1 X false ρ fun t ρ0 => (if isNon lo = true then ptE hi ((c2 p Φ hi).1 X false) ρ0 fun h ρ2 => sliceT (fz t) none h fun r => Q r ρ2
        else (c2 p Φ lo).1 X false ρ0 fun tl ρ1 => ∃ l, tl = .i l ∧ ptE hi ((c2 p Φ hi).1 X false) ρ1 fun h ρ2 => sliceT (fz t) (some l) h fun r => Q r ρ2))
  | .lc el tg k ss cs own => mk2 p (.lc el tg k ss cs own) (fun X m ρ0 Q => okSk k ss = true ∧ ∃ ρ, ρ = pre (fun j => mens j (el :: cs)) ss ρ0 ∧ cAs p Φ ss X ρ fun as ρ1 => ∃ ts ρ2 us, lend as ρ1 = some (ts, ρ2) ∧ (us = ts ∨ (dvar k ss ρ = false ∧ us = fzs ts)) ∧ isDct1 us = dvar k ss ρ ∧ ∃ its, itemsT k us = some its ∧ ows its = false ∧ (tgSl tg).all own.contains = true ∧
      lcLoop (fun t acc ρ Q => bindT tg t (wipeE ρ own) fun ρ1 => cCs p Φ cs ρ1 fun b ρ2 => if b = true then (c2 p Φ el).1 noX false ρ2 fun y ρ3 => acc.length < sizeLine ∧ Q (acc ++ [y]) ρ3 else Q acc ρ2) its [] ρ2
        fun acc ρ3 => Q (.nd .lst true acc) (back as ts us (resE ρ2 own (wipeE ρ3 own))))
  | .dc _ _ _ _ _ _ _ => (fun _ _ _ _ => False, fun _ _ _ => False)
def cEs (p : Px) (Φ : CF) : List Ex → CE0 → Bool → Ev → (List T → Ev → Prop) → Prop
  | [], _, _, ρ, Q => Q [] ρ
  | e :: r, X, m, ρ, Q => (c2 p Φ e).1 X (m && mvE e r) ρ fun t ρ1 => cEs p Φ r X m ρ1 fun ts ρ2 => Q (t :: ts) ρ2
def cAs (p : Px) (Φ : CF) : List Ex → CE0 → Ev → (List Ag → Ev → Prop) → Prop
  | [], _, ρ, Q => Q [] ρ
  | e :: r, X, ρ, Q => agE e ((c2 p Φ e).1 X false) ρ fun a ρ1 => cAs p Φ r X ρ1 fun as ρ2 => Q (a :: as) ρ2
def cCs (p : Px) (Φ : CF) : List Ex → Ev → (Bool → Ev → Prop) → Prop
  | [], ρ, Q => Q true ρ
  | e :: _, ρ, Q => (c2 p Φ e).2 noX ρ Q
def c1s (p : Px) (Φ : CF) : List Ex → List VE
  | [] => []
  | e :: r => (c2 p Φ e).1 :: c1s p Φ r
def cDs (p : Px) (Φ : CF) : List Ex → List VE → CE0 → Ev → (List Key → List T → Ev → Prop) → Prop
  | k :: ks, vs, X, ρ, Q => match vs with
    | v :: vs => (c2 p Φ k).1 X false ρ fun tk ρ1 => ∃ x, toKey tk = some x ∧ v X false ρ1 fun tv ρ2 => cDs p Φ ks vs X ρ2 fun xs ts ρ3 => Q (x :: xs) (tv :: ts) ρ3
    | [] => False
  | [], vs, _, ρ, Q => vs = [] ∧ Q [] [] ρ
end
end PL
set_option Elab.async false
set_option linter.all false
set_option maxRecDepth 100000
set_option maxHeartbeats 4000000
namespace PL
open PySem PySem.Spec PyProof.Rows L2

/-- .. and what is looked at, pk -/
def InP (K : PySem.W.Frag) (F : Addr → Option HO) (R : Ow) (H : Hp) (ρ : List T) (σ : L2.St) (l pk : List (T × V)) : Prop :=
  ∃ O1 O2, (∀ x, R x + (O1 x + O2 x) ≤ 1) ∧ (∀ x, R x ≠ 0 → F x ≠ none) ∧ (∀ x u, F x = some u → H x = some u ∧ O1 x + O2 x = 0) ∧ (∀ x, O1 x + O2 x ≠ 0 → H x ≠ none) ∧
    reps K H (pl R (pl O1 O2)) ρ O1 σ ∧ reps K H (pl R (pl O1 O2)) (l.map (·.1)) O2 (l.map fun p => some p.2) ∧ ∀ q ∈ pk, ∃ O, rep K H (pl R (pl O1 O2)) q.1 O (some q.2)
section
variable {K : PySem.W.Frag} {F : Addr → Option HO} {R : Ow} {H : Hp} {ρ : List T} {σ : L2.St} {l l' pk pk' : List (T × V)} {t : T} {v : V}
theorem inP_of (h : In K F R H ρ σ l) : InP K F R H ρ σ l [] := by
  obtain ⟨O1, O2, a, b, c, d, e, f⟩ := h
  exact ⟨O1, O2, a, b, c, d, e, f, fun _ h => nomatch h⟩
theorem inP_in (h : InP K F R H ρ σ l pk) : In K F R H ρ σ l := by
  obtain ⟨O1, O2, a, b, c, d, e, f, _⟩ := h
  exact ⟨O1, O2, a, b, c, d, e, f⟩
theorem inP_sub (s : ∀ q ∈ pk', q ∈ pk) (h : InP K F R H ρ σ l pk) : InP K F R H ρ σ l pk' := by
  obtain ⟨O1, O2, a, b, c, d, e, f, g⟩ := h
  exact ⟨O1, O2, a, b, c, d, e, f, fun q hq => g q (s q hq)⟩
theorem inP_env {i : Nat} (ht : ρ[i]? = some t) (hn : isUn t = false) (h : InP K F R H ρ σ l pk) : ∃ v, σ[i]? = some (some v) ∧ InP K F R H ρ σ l ((t, v) :: pk) := by
  obtain ⟨O1, O2, a, b, c, d, e, f, g⟩ := h
  obtain ⟨u, P1, P2, eu, e2, r, k⟩ := reps_get e ht
  obtain ⟨v, rfl⟩ := rep_some r hn
  refine ⟨v, eu, O1, O2, a, b, c, d, e, f, fun q hq => ?_⟩
  rcases List.mem_cons.mp hq with rfl | hq
  · exact ⟨P1, r⟩
  · exact g q hq
theorem inP_keep (h : InP K F R H ρ σ ((t, v) :: l) pk) : InP K F R H ρ σ ((t, v) :: l) ((t, v) :: pk) := by
  obtain ⟨O1, O2, a, b, c, d, e, f, g⟩ := h
  have f' := f
  obtain ⟨P1, P2, u, us, rfl, e2, f1, f2⟩ := f'
  cases e2
  refine ⟨O1, _, a, b, c, d, e, f, fun q hq => ?_⟩
  rcases List.mem_cons.mp hq with rfl | hq
  · exact ⟨P1, f1⟩
  · exact g q hq
theorem inP_drop (h : InP K F R H ρ σ ((t, v) :: l) pk) : InP K F R H ρ σ l pk := by
  obtain ⟨O1, O2, a, b, c, d, e, f, g⟩ := h
  obtain ⟨P1, P2, u, us, rfl, e2, f1, f2⟩ := f
  cases e2
  have le : ∀ x, O1 x + P2 x ≤ O1 x + (pl P1 P2) x := fun x => by simp only [pl]; omega
  refine ⟨O1, P2, fun x => ?_, b, fun x u hx => ?_, fun x hx => ?_, reps_mono0 (m_less le) e, reps_mono0 (m_less le) f2, fun q hq => ?_⟩
  · have := a x; have := le x; omega
  · obtain ⟨c1, c2⟩ := c x u hx; have := le x; exact ⟨c1, by omega⟩
  · have := le x; exact d x (by omega)
  · obtain ⟨O, r⟩ := g q hq
    exact ⟨O, rep_mono0 (m_less le) r⟩
theorem inP_temp (h : InP K F R H ρ σ ((t, v) :: l) pk) : InP K F R H ρ σ l ((t, v) :: pk) := inP_drop (inP_keep h)
theorem inP_up (ho : ow t = false) (h : InP K F R H ρ σ l ((t, v) :: pk)) : InP K F R H ρ σ ((t, v) :: l) pk := by
  obtain ⟨O1, O2, a, b, c, d, e, f, g⟩ := h
  obtain ⟨O, r⟩ := g _ List.mem_cons_self
  have z := rep_ow ho r
  subst z
  exact ⟨O1, O2, a, b, c, d, e, ⟨z0, O2, _, _, z_pl.symm, rfl, r, f⟩, fun q hq => g q (List.mem_cons_of_mem _ hq)⟩
theorem inP_ups : ∀ {cs pk : List (T × V)}, ows (cs.map (·.1)) = false → InP K F R H ρ σ l (cs ++ pk) → InP K F R H ρ σ (cs ++ l) pk
  | [], _, _, h => h
  | (t, v) :: cs, pk, ho, h => by
    obtain ⟨e1, e2⟩ := Bool.or_eq_false_iff.mp (show (ow t || ows (cs.map (·.1))) = false from ho)
    have q := inP_ups (cs := cs) (pk := (t, v) :: pk) e2 (inP_sub (fun q hq => by
      rcases List.mem_append.mp hq with h | h
      · exact List.mem_cons_of_mem _ (List.mem_append_left _ h)
      · rcases List.mem_cons.mp h with rfl | h
        · exact List.mem_cons_self
        · exact List.mem_cons_of_mem _ (List.mem_append_right _ h)) h)
    exact inP_up e1 q
/-- how a node stands, owned or not -/
def Rko (H : Hp) (p : Addr) (k : Kd) (o : Bool) (w : HO) : Prop := if o = true then H p = some w else Rk H p k w
theorem Rko.lst {p : Addr} {o : Bool} {vs : List V} {w : HO} (c : cellOf K .lst vs w) (h : Rko H p .lst o w) : H p = some (.lst vs) := by
  have e : w = .lst vs := c
  subst e
  cases o <;> exact h
theorem Rko.dct {p : Addr} {o : Bool} {ks : List Key} {vs : List V} {w : HO} (c : cellOf K (.dct ks) vs w) (h : Rko H p (.dct ks) o w) : Rd H p (.dK (ks.zip vs)) := by
  obtain ⟨_, e⟩ := c
  subst e
  cases o
  · exact h
  · exact .inl h
theorem Rko.obj {p : Addr} {o : Bool} {C : Str} {fs : List Str} {vs : List V} {w : HO} (c : cellOf K (.obj C fs) vs w) (h : Rko H p (.obj C fs) o w) : ∃ dx, H p = some (.ins (He.ga K C) dx (fs.zip vs)) := by
  obtain ⟨_, dx, e⟩ := c
  subst e
  cases o <;> exact ⟨dx, h⟩
theorem inP_nd {k : Kd} {o : Bool} {ts : List T} (h : InP K F R H ρ σ l ((.nd k o ts, v) :: pk)) : ∃ p cs w, v = .ref p ∧ cs.map (·.1) = ts ∧ cellOf K k (cs.map (·.2)) w ∧ Rko H p k o w ∧ InP K F R H ρ σ l (cs ++ (.nd k o ts, v) :: pk) := by
  obtain ⟨O1, O2, a, b, c, d, e, f, g⟩ := h
  obtain ⟨O, r⟩ := g _ List.mem_cons_self
  obtain ⟨p, vs, w, e3, hc, q⟩ := r
  cases e3
  have : Rko H p k o w ∧ ∃ O', reps K H (pl R (pl O1 O2)) ts O' (vs.map some) := by
    rcases q with ⟨rfl, hp, O', _, r⟩ | ⟨rfl, hp, _, _, r⟩
    · exact ⟨hp, O', r⟩
    · exact ⟨hp, z0, r⟩
  obtain ⟨hp, O', r⟩ := this
  obtain ⟨cs, e1, e2, r2⟩ := pairs_of r
  subst e1 e2
  refine ⟨p, cs, w, rfl, rfl, hc, hp, O1, O2, a, b, c, d, e, f, fun q hq => ?_⟩
  rcases List.mem_append.mp hq with h | h
  · have gen : ∀ {cs : List (T × V)} {O : Ow}, reps K H (pl R (pl O1 O2)) (cs.map (·.1)) O (cs.map fun p => some p.2) → ∀ q ∈ cs, ∃ O, rep K H (pl R (pl O1 O2)) q.1 O (some q.2) := by
      intro cs
      induction cs with
      | nil => intro O _ q hq; cases hq
      | cons a cs ih =>
        intro O r q hq
        obtain ⟨P1, P2, u, us, _, e2, f1, f2⟩ := r
        cases e2
        rcases List.mem_cons.mp hq with rfl | hq
        · exact ⟨P1, f1⟩
        · exact ih f2 q hq
    exact gen r2 q h
  · exact g q h
theorem inP_tup {ts : List T} (h : InP K F R H ρ σ l ((.tup ts, v) :: pk)) : ∃ p cs, v = .ref p ∧ cs.map (·.1) = ts ∧ H p = some (.tup (cs.map (·.2))) ∧ InP K F R H ρ σ l (cs ++ (.tup ts, v) :: pk) := by
  obtain ⟨O1, O2, a, b, c, d, e, f, g⟩ := h
  obtain ⟨O, r⟩ := g _ List.mem_cons_self
  obtain ⟨p, vs, e3, hp, _, r⟩ := r
  cases e3
  obtain ⟨cs, e1, e2, r2⟩ := pairs_of r
  subst e1 e2
  refine ⟨p, cs, rfl, rfl, hp, O1, O2, a, b, c, d, e, f, fun q hq => ?_⟩
  rcases List.mem_append.mp hq with h | h
  · have gen : ∀ {cs : List (T × V)} {O : Ow}, reps K H (pl R (pl O1 O2)) (cs.map (·.1)) O (cs.map fun p => some p.2) → ∀ q ∈ cs, ∃ O, rep K H (pl R (pl O1 O2)) q.1 O (some q.2) := by
      intro cs
      induction cs with
      | nil => intro O _ q hq; cases hq
      | cons a cs ih =>
        intro O r q hq
        obtain ⟨P1, P2, u, us, _, e2, f1, f2⟩ := r
        cases e2
        rcases List.mem_cons.mp hq with rfl | hq
        · exact ⟨P1, f1⟩
        · exact ih f2 q hq
    exact gen r2 q h
  · exact g q h
theorem inP_lf {w : V} (h : InP K F R H ρ σ l ((.lf w, v) :: pk)) : v = w := by
  obtain ⟨O1, O2, a, b, c, d, e, f, g⟩ := h
  obtain ⟨O, r, _⟩ := g _ List.mem_cons_self
  exact Option.some.inj r
theorem inP_cls {x : Str} (h : InP K F R H ρ σ l ((.cls x, v) :: pk)) : v = .ref (He.ga K x) := by
  obtain ⟨O1, O2, a, b, c, d, e, f, g⟩ := h
  obtain ⟨O, r, _⟩ := g _ List.mem_cons_self
  exact Option.some.inj r
theorem inP_scr {ns : List Int} (h : InP K F R H ρ σ l ((.scr ns, v) :: pk)) : ∃ a, v = .ref a ∧ SqL K H a (ns.map V.int) := by
  obtain ⟨O1, O2, a, b, c, d, e, f, g⟩ := h
  obtain ⟨O, ⟨p, r, q⟩, _⟩ := g _ List.mem_cons_self
  cases r
  refine ⟨p, rfl, ?_⟩
  rcases q with q | q
  · exact .inl q.1
  · exact q H
theorem inP_tl (h : InP K F R H ρ σ l ((t, v) :: pk)) : InP K F R H ρ σ l pk := inP_sub (fun q hq => List.mem_cons_of_mem _ hq) h
mutual
theorem rep_in {M : Ow} : ∀ {t : T} {O : Ow} {u : Option V}, rep K H M t O u → ∀ x, O x ≠ 0 → H x ≠ none
  | .un, _, _, h, x, hx => by rw [h] at hx; exact absurd rfl hx
  | .lf _, _, _, h, x, hx => by rw [h.2] at hx; exact absurd rfl hx
  | .cls _, _, _, h, x, hx => by rw [h.2] at hx; exact absurd rfl hx
  | .scr _, _, _, h, x, hx => by rw [h.2] at hx; exact absurd rfl hx
  | .cel _, _, _, h, x, hx => by
    obtain ⟨p, _, rfl, hp⟩ := h
    by_cases e : x = p
    · rw [e, hp]; simp
    · exact absurd (one_ne e) hx
  | .tup ts, _, _, h, x, hx => by
    obtain ⟨p, vs, _, _, _, r⟩ := h
    exact reps_in r x hx
  | .nd k o ts, _, _, h, x, hx => by
    obtain ⟨p, vs, w, _, _, q⟩ := h
    rcases q with ⟨_, hp, O', rfl, r⟩ | ⟨_, _, _, rfl, _⟩
    · by_cases e : x = p
      · rw [e, hp]; simp
      · exact reps_in r x (by simp only [pl, one_ne e] at hx; omega)
    · exact absurd rfl hx
theorem reps_in {M : Ow} : ∀ {ts : List T} {O : Ow} {us : List (Option V)}, reps K H M ts O us → ∀ x, O x ≠ 0 → H x ≠ none
  | [], _, _, h, x, hx => by rw [h.1] at hx; exact absurd rfl hx
  | t :: ts, _, _, h, x, hx => by
    obtain ⟨O1, O2, u, us', rfl, _, h1, h2⟩ := h
    by_cases e : O1 x = 0
    · exact reps_in h2 x (by simp only [pl] at hx; omega)
    · exact rep_in h1 x e
end
theorem inP_alloc {p : Addr} (w : HO) (hp : H p = none) (h : InP K F R H ρ σ l pk) : InP K F R (upd H p w) ρ σ ((.cel w, .ref p) :: l) pk := by
  obtain ⟨O1, O2, a, b, c, d, e, f, g⟩ := h
  have o0 : O1 p + O2 p = 0 := by
    by_cases q : O1 p + O2 p = 0
    · exact q
    · exact absurd hp (d p q)
  have r0 : R p = 0 := by
    by_cases q : R p = 0
    · exact q
    · obtain ⟨u, hu⟩ := Option.ne_none_iff_exists'.mp (b p q)
      have := (c p u hu).1
      rw [hp] at this
      cases this
  have ne : ∀ {x : Addr} {w' : HO}, H x = some w' → x ≠ p := fun hx e => by rw [e, hp] at hx; cases hx
  have mv : Mv H (pl R (pl O1 O2)) (upd H p w) (pl R (pl O1 (pl (one p) O2))) := ⟨fun x w' hx z => by
    refine ⟨?_, .inl (by rw [upd_ne (ne hx)]; exact hx)⟩
    have := one_ne (ne hx)
    simp only [pl] at z ⊢
    omega⟩
  refine ⟨O1, pl (one p) O2, fun x => ?_, b, fun x u hx => ?_, fun x hx => ?_, reps_mv mv (fun x hx => upd_ne fun e => ?_) e, ⟨one p, O2, _, _, rfl, rfl, ⟨p, rfl, rfl, upd_same⟩, reps_mv mv (fun x hx => upd_ne fun e => ?_) f⟩, fun q hq => ?_⟩
  · by_cases q : x = p
    · subst q; simp only [pl, one_same]; omega
    · have := a x; simp only [pl, one_ne q]; omega
  · obtain ⟨h1, h2⟩ := c x u hx
    refine ⟨by rw [upd_ne (ne h1)]; exact h1, ?_⟩
    simp only [pl, one_ne (ne h1)]; omega
  · by_cases q : x = p
    · subst q; rw [upd_same]; simp
    · rw [upd_ne q]; apply d; simp only [pl, one_ne q] at hx; omega
  · subst e; omega
  · subst e; omega
  · obtain ⟨O, r⟩ := g q hq
    exact ⟨O, rep_mv mv (fun x hx => upd_ne fun e => by subst e; exact rep_in r _ hx hp) r⟩
theorem inP_close {k : Kd} {w : HO} {cs : List (T × V)} (hc : cellOf K k (cs.map (·.2)) w) (h : InP K F R H ρ σ ((.cel w, v) :: cs ++ l) pk) : InP K F R H ρ σ ((.nd k true (cs.map (·.1)), v) :: l) pk := by
  obtain ⟨O1, O2, a, b, c, d, e, f, g⟩ := h
  obtain ⟨P1, P2, u, us, rfl, e2, ⟨p, e3, rfl, hp⟩, f2⟩ := f
  cases e2
  cases e3
  change reps _ _ _ ((cs ++ l).map _) P2 ((cs ++ l).map _) at f2
  rw [List.map_append, List.map_append] at f2
  obtain ⟨Q1, Q2, rfl, g1, g2⟩ := (reps_app (by simp)).mp f2
  refine ⟨O1, _, a, b, c, d, e, ⟨pl (one p) Q1, Q2, _, _, pl_assoc.symm, rfl, ⟨p, _, w, rfl, hc, .inl ⟨rfl, hp, Q1, rfl, ?_⟩⟩, g2⟩, g⟩
  rw [List.map_map]
  exact g1
/-- a new node -/
theorem in_new {k : Kd} {w : HO} {cs : List (T × V)} {p : Addr} (hp : H p = none) (hc : cellOf K k (cs.map (·.2)) w) (h : In K F R H ρ σ (cs ++ l)) : In K F R (upd H p w) ρ σ ((.nd k true (cs.map (·.1)), .ref p) :: l) :=
  in_close hc (in_alloc w hp h)
theorem in_newT {cs : List (T × V)} {p : Addr} (hp : H p = none) (h : In K F R H ρ σ (cs ++ l)) : In K F R (upd H p (.tup (cs.map (·.2)))) ρ σ ((.tup (cs.map (·.1)), .ref p) :: l) :=
  in_tup (in_alloc _ hp h)
theorem in_lf (w : V) (h : In K F R H ρ σ l) : In K F R H ρ σ ((.lf w, w) :: l) := by
  obtain ⟨O1, O2, a, b, c, d, e, f⟩ := h
  exact ⟨O1, O2, a, b, c, d, e, z0, O2, _, _, z_pl.symm, rfl, ⟨rfl, rfl⟩, f⟩
theorem in_cls (x : Str) (h : In K F R H ρ σ l) : In K F R H ρ σ ((.cls x, .ref (He.ga K x)) :: l) := by
  obtain ⟨O1, O2, a, b, c, d, e, f⟩ := h
  exact ⟨O1, O2, a, b, c, d, e, z0, O2, _, _, z_pl.symm, rfl, ⟨rfl, rfl⟩, f⟩
theorem in_fl {w v : V} (h : In K F R H ρ σ ((.lf w, v) :: l)) : v = w := inP_lf (inP_keep (inP_of h))
end
end PL
set_option Elab.async false
set_option linter.all false
set_option maxRecDepth 100000
set_option maxHeartbeats 4000000
namespace PL
open PySem PySem.Spec PyProof.Rows L2

structure Kn (p : Px) (K : PySem.W.Frag) : Prop where
  cls : ∀ c, p.cls.contains c = true → Cls K (He.ga K c)
  na : ∀ x f, p.noat.contains (x, f) = true → PySem.W.findIn K (.ref (He.ga K x)) f = some none
  gm : Gm p K
  oex : ∀ x, p.exs.contains x = true → OexC K (He.ga K x)
section
variable {p : Px} {K : PySem.W.Frag} {F : Addr → Option HO} {R : Ow} {H : Hp} {ρ : List T} {σ : L2.St} {l l' pk pk' : List (T × V)} {t u k : T} {v tv kv : V}
theorem inP_mem {q : T × V} (m : q ∈ pk) (h : InP K F R H ρ σ l pk) : InP K F R H ρ σ l (q :: pk) := inP_sub (fun r hr => by
  rcases List.mem_cons.mp hr with rfl | hr
  · exact m
  · exact hr) h
theorem okAt_ok (kn : Kn p K) {C f : Str} (h : okAt p C f = true) : Cls K (He.ga K C) ∧ NoAttr K (He.ga K C) f := by
  obtain ⟨h1, h2⟩ := Bool.and_eq_true_iff.mp h
  exact ⟨kn.cls C h1, kn.na C f h2⟩
theorem zip_lookup {f : Str} : ∀ {fs : List Str} {cs : List (T × V)}, (fs.zip (cs.map (·.1))).lookup f = some u → ∃ v, (fs.zip (cs.map (·.2))).lookup f = some v ∧ (u, v) ∈ cs
  | [], _, h => by cases h
  | g :: fs, [], h => by cases h
  | g :: fs, c :: cs, h => by
    simp only [List.map_cons, List.zip_cons_cons, List.lookup_cons] at h ⊢
    cases e : f == g with
    | true =>
      rw [e] at h
      cases h
      exact ⟨c.2, rfl, List.mem_cons_self⟩
    | false =>
      rw [e] at h
      obtain ⟨v, h1, h2⟩ := zip_lookup (fs := fs) (cs := cs) h
      exact ⟨v, h1, List.mem_cons_of_mem _ h2⟩
theorem get_pair {cs : List (T × V)} {j : Nat} (h : (cs.map (·.1))[j]? = some u) : ∃ v, (cs.map (·.2))[j]? = some v ∧ (u, v) ∈ cs := by
  rw [List.getElem?_map] at h
  cases e : cs[j]? with
  | none => rw [e] at h; cases h
  | some c =>
    rw [e] at h
    cases h
    exact ⟨c.2, by rw [List.getElem?_map, e] <;> rfl, List.mem_of_getElem? e⟩
theorem atI_pair {cs : List (T × V)} {i : Int} (h : atI (cs.map (·.1)) i = some u) : ∃ v, atI (cs.map (·.2)) i = some v ∧ (u, v) ∈ cs := by
  unfold atI at h ⊢
  rw [List.length_map] at h ⊢
  cases e : ixN cs.length i with
  | none => rw [e] at h; cases h
  | some j =>
    rw [e] at h
    exact get_pair h
theorem dget_pair {key : Key} : ∀ {ks : List Key} {cs : List (T × V)}, dgetT ks (cs.map (·.1)) key = some u → ∃ v, valV (ks.zip (cs.map (·.2))) key = some v ∧ (u, v) ∈ cs
  | [], _, h => by cases h
  | g :: fs, [], h => by cases h
  | g :: fs, c :: cs, h => by
    unfold dgetT at h
    unfold valV
    simp only [List.map_cons, List.zip_cons_cons, List.find?_cons] at h ⊢
    by_cases e : g = key
    · rw [decide_eq_true e] at h ⊢
      cases h
      exact ⟨c.2, rfl, List.mem_cons_self⟩
    · rw [decide_eq_false e] at h ⊢
      obtain ⟨v, h1, h2⟩ := dget_pair (ks := fs) (cs := cs) h
      exact ⟨v, h1, List.mem_cons_of_mem _ h2⟩
theorem dget_none {key : Key} : ∀ {ks : List Key} {cs : List (T × V)}, (valV (ks.zip (cs.map (·.2))) key).isSome = (dgetT ks (cs.map (·.1)) key).isSome
  | [], _ => rfl
  | g :: fs, [] => rfl
  | g :: fs, c :: cs => by
    unfold dgetT valV
    simp only [List.map_cons, List.zip_cons_cons, List.find?_cons]
    by_cases e : g = key
    · rw [decide_eq_true e] <;> rfl
    · rw [decide_eq_false e]
      exact dget_none (ks := fs) (cs := cs)
theorem toKey_ok {key : Key} (hk : toKey k = some key) (h : InP K F R H ρ σ l ((k, kv) :: pk)) : kv = kV key := by
  unfold toKey at hk
  split at hk
  · cases hk; exact inP_lf h
  · cases hk; exact inP_lf h
  · cases hk
theorem sql_of {a : Addr} {vs : List V} (h : H a = some (.lst vs)) : SqL K H a vs := .inl (.inl h)
theorem sqt_of {a : Addr} {vs : List V} (h : H a = some (.tup vs)) : SqT K H a vs := .inl (.inl h)
theorem idx_L {Post : V → Hp → Prop} (hd : isDct t = false) (hi : idxT t k = some u) (mt : (t, tv) ∈ pk) (mk : (k, kv) ∈ pk) (h : InP K F R H ρ σ l pk) (q : ∀ v, InP K F R H ρ σ l ((u, v) :: pk) → Post v H) : rIx K tv kv H Post := by
  unfold idxT at hi
  split at hi
  · rename_i o ts i
    obtain ⟨a, cs, w, rfl, rfl, c, r, h2⟩ := inP_nd (inP_mem mt h)
    obtain ⟨z, hz, m⟩ := atI_pair hi
    have ek := inP_lf (inP_mem mk h)
    exact .inl ⟨a, _, i, z, rfl, ek, sql_of (Rko.lst c r), hz, q z (inP_sub (fun r hr => by
      rcases List.mem_cons.mp hr with rfl | hr
      · exact List.mem_append_left _ m
      · exact List.mem_append_right _ (List.mem_cons_of_mem _ hr)) h2)⟩
  · rename_i ts i
    obtain ⟨a, cs, rfl, rfl, r, h2⟩ := inP_tup (inP_mem mt h)
    obtain ⟨z, hz, m⟩ := atI_pair hi
    have ek := inP_lf (inP_mem mk h)
    exact .inr (.inl ⟨a, _, i, z, rfl, ek, sqt_of r, hz, q z (inP_sub (fun r hr => by
      rcases List.mem_cons.mp hr with rfl | hr
      · exact List.mem_append_left _ m
      · exact List.mem_append_right _ (List.mem_cons_of_mem _ hr)) h2)⟩)
  · rename_i z i
    split at hi
    · rename_i hz
      obtain ⟨c, hc, e⟩ := Option.map_eq_some_iff.mp hi
      have et := inP_lf (inP_mem mt h)
      have ek := inP_lf (inP_mem mk h)
      subst e
      obtain ⟨O1, O2, a, b, c', d, e, f, g⟩ := h
      exact .inr (.inr ⟨z, i, c, et, ek, hz, hc, q _ ⟨O1, O2, a, b, c', d, e, f, fun r hr => by
        rcases List.mem_cons.mp hr with rfl | hr
        · exact ⟨z0, rfl, rfl⟩
        · exact g r hr⟩⟩)
    · cases hi
  · cases hd
  · cases hi
theorem idx_D {Post : V → Hp → Prop} (hd : isDct t = true) (hi : idxT t k = some u) (mt : (t, tv) ∈ pk) (mk : (k, kv) ∈ pk) (h : InP K F R H ρ σ l pk) (q : ∀ v, InP K F R H ρ σ l ((u, v) :: pk) → Post v H) :
    ∃ a v, tv = .ref a ∧ DGet H a kv (some v) ∧ Post v H := by
  unfold isDct at hd
  split at hd
  · rename_i ks o ts
    have hi' : (toKey k).bind (fun k => dgetT ks ts k) = some u := by
      unfold idxT at hi
      exact hi
    obtain ⟨key, hk, hg⟩ := Option.bind_eq_some_iff.mp hi'
    obtain ⟨a, cs, w, rfl, rfl, c, r, h2⟩ := inP_nd (inP_mem mt h)
    obtain ⟨z, hz, m⟩ := dget_pair hg
    have ek := toKey_ok hk (inP_mem mk h)
    refine ⟨a, z, rfl, .inl ⟨_, key, Rko.dct c r, ek, hz.symm⟩, q z (inP_sub (fun r hr => by
      rcases List.mem_cons.mp hr with rfl | hr
      · exact List.mem_append_left _ m
      · exact List.mem_append_right _ (List.mem_cons_of_mem _ hr)) h2)⟩
  · cases hd
theorem fld_ok {f : Str} {Post : V → Hp → Prop} (kn : Kn p K) (hi : fldT p f t = some u) (h : InP K F R H ρ σ l ((t, tv) :: pk)) (q : ∀ v, InP K F R H ρ σ l ((u, v) :: (t, tv) :: pk) → Post v H) :
    ∃ a C dx fs v, tv = .ref a ∧ H a = some (.ins C dx fs) ∧ Cls K C ∧ NoAttr K C f ∧ fs.lookup f = some v ∧ Post v H := by
  unfold fldT at hi
  split at hi
  · split at hi
    · rename_i C fs o ts ho
      obtain ⟨a, cs, w, rfl, rfl, c, r, h2⟩ := inP_nd h
      obtain ⟨dx, e⟩ := Rko.obj c r
      obtain ⟨z, hz, m⟩ := zip_lookup hi
      obtain ⟨c1, c2⟩ := okAt_ok kn ho
      exact ⟨a, _, dx, _, z, rfl, e, c1, c2, hz, q z (inP_sub (fun r hr => by
        rcases List.mem_cons.mp hr with rfl | hr
        · exact List.mem_append_left _ m
        · exact List.mem_append_right _ hr) h2)⟩
    · cases hi
  · cases hi
theorem inP_l0 (w : V) (h : InP K F R H ρ σ l pk) : InP K F R H ρ σ l ((.lf w, w) :: pk) := by
  obtain ⟨O1, O2, a, b, c', d, e, f, g⟩ := h
  exact ⟨O1, O2, a, b, c', d, e, f, fun r hr => by
    rcases List.mem_cons.mp hr with rfl | hr
    · exact ⟨z0, rfl, rfl⟩
    · exact g r hr⟩
theorem inP_c0 (x : Str) (h : InP K F R H ρ σ l pk) : InP K F R H ρ σ l ((.cls x, .ref (He.ga K x)) :: pk) := by
  obtain ⟨O1, O2, a, b, c', d, e, f, g⟩ := h
  exact ⟨O1, O2, a, b, c', d, e, f, fun r hr => by
    rcases List.mem_cons.mp hr with rfl | hr
    · exact ⟨z0, rfl, rfl⟩
    · exact g r hr⟩
theorem or_un {α : Type} {x : Option T} {t : T} (h : (x.bind fun u => if isUn u = true then none else some u) = some t) : x = some t ∧ isUn t = false := by
  cases x with
  | none => cases h
  | some u =>
    change (if isUn u = true then none else some u) = some t at h
    cases e : isUn u with
    | true => rw [e, if_pos rfl] at h; cases h
    | false => rw [e, if_neg (by decide)] at h; cases h; exact ⟨rfl, e⟩
def Le (H H' : Hp) : Prop := ∀ x w, H x = some w → H' x = some w
theorem Le.rfl : Le H H := fun _ _ h => h
theorem Le.trans {H1 H2 H3 : Hp} (a : Le H1 H2) (b : Le H2 H3) : Le H1 H3 := fun x w h => b x w (a x w h)
theorem Le.new {a : Addr} {w : HO} (ha : H a = none) : Le H (upd H a w) := fun x u h => by
  rw [upd_ne fun e => by rw [e, ha] at h; cases h]
  exact h
/-- what is quiet changes nothing -/
theorem q_ok {Φ : Nat → Sp} {W : WX} (kn : Kn p K) : ∀ (e : Ex) {t : T} {H : Hp} {l pk : List (T × V)} {Post : V → Hp → Prop}, cq p e ρ = some t → InP K F R H ρ σ l pk →
    (∀ v H', isUn t = false → Le H H' → InP K F R H' ρ σ l ((t, v) :: pk) → Post v H') → (t2 K Φ e W).1 σ H Post
  | .var i, t, H, l, pk, Post, he, h, q => by
    unfold cq at he
    obtain ⟨h1, h2⟩ := or_un (α := T) he
    obtain ⟨v, hv, h3⟩ := inP_env h1 h2 h
    exact ⟨v, hv, q v H h2 Le.rfl h3⟩
  | .int i, t, H, l, pk, Post, he, h, q => by cases he; exact q _ H rfl Le.rfl (inP_l0 _ h)
  | .bl i, t, H, l, pk, Post, he, h, q => by cases he; exact q _ H rfl Le.rfl (inP_l0 _ h)
  | .non, t, H, l, pk, Post, he, h, q => by cases he; exact q _ H rfl Le.rfl (inP_l0 _ h)
  | .str i, t, H, l, pk, Post, he, h, q => by cases he; exact q _ H rfl Le.rfl (inP_l0 _ h)
  | .ty i, t, H, l, pk, Post, he, h, q => by cases he; exact q _ H rfl Le.rfl (inP_l0 _ h)
  | .cls i, t, H, l, pk, Post, he, h, q => by cases he; exact q _ H rfl Le.rfl (inP_c0 _ h)
  | .neg a, t, H, l, pk, Post, he, h, q => by
    unfold cq at he
    cases a <;> first | cases he
    rename_i i
    exact ⟨i, rfl, q _ H rfl Le.rfl (inP_l0 _ h)⟩
  | .lst es, t, H, l, pk, Post, he, h, q => by
    unfold cq at he
    cases es <;> cases he
    refine ⟨Nat.zero_le _, fun a ha => q _ _ rfl (Le.new ha) (inP_temp (inP_close (k := .lst) (cs := []) rfl (inP_alloc _ ha h)))⟩
  | .attr o f, t, H, l, pk, Post, he, h, q => by
    unfold cq at he
    obtain ⟨t0, h0, h1⟩ := Option.bind_eq_some_iff.mp he
    obtain ⟨h2, h3⟩ := or_un (α := T) h1
    refine q_ok kn o h0 h fun v H' _ le h' => ?_
    exact fld_ok kn h2 h' fun z hz => q z H' h3 le (inP_sub (fun r hr => by
      rcases List.mem_cons.mp hr with rfl | hr
      · exact List.mem_cons_self
      · exact List.mem_cons_of_mem _ (List.mem_cons_of_mem _ hr)) hz)
  | .idx o i, t, H, l, pk, Post, he, h, q => by
    unfold cq at he
    obtain ⟨t0, h0, h1⟩ := Option.bind_eq_some_iff.mp he
    obtain ⟨tk, hk, h1⟩ := Option.bind_eq_some_iff.mp h1
    obtain ⟨h2, h3⟩ := or_un (α := T) h1
    have fin : ∀ {v w z : V} {H2 : Hp}, InP K F R H2 ρ σ l ((t, z) :: (tk, w) :: (t0, v) :: pk) → InP K F R H2 ρ σ l ((t, z) :: pk) := fun hz => inP_sub (fun r hr => by
      rcases List.mem_cons.mp hr with rfl | hr
      · exact List.mem_cons_self
      · exact List.mem_cons_of_mem _ (List.mem_cons_of_mem _ (List.mem_cons_of_mem _ hr))) hz
    cases hd : isDct t0 with
    | false =>
      refine .inl (q_ok kn o h0 h fun v H' _ le h' => q_ok kn i hk h' fun w H2 _ le2 h'' => ?_)
      exact idx_L hd h2 (List.mem_cons_of_mem _ List.mem_cons_self) List.mem_cons_self h'' fun z hz => q z H2 h3 (le.trans le2) (fin hz)
    | true =>
      refine .inr (q_ok kn o h0 h fun v H' _ le h' => q_ok kn i hk h' fun w H2 _ le2 h'' => ?_)
      exact idx_D hd h2 (List.mem_cons_of_mem _ List.mem_cons_self) List.mem_cons_self h'' fun z hz => q z H2 h3 (le.trans le2) (fin hz)
  | .bin _ _ _, _, _, _, _, _, he, _, _ => by cases he
  | .not _, _, _, _, _, _, he, _, _ => by cases he
  | .and _ _, _, _, _, _, _, he, _, _ => by cases he
  | .or _ _, _, _, _, _, _, he, _, _ => by cases he
  | .ite _ _ _, _, _, _, _, _, he, _, _ => by cases he
  | .cmp _ _ _, _, _, _, _, _, he, _, _ => by cases he
  | .chain _ _ _ _ _, _, _, _, _, _, he, _, _ => by cases he
  | .tup _, _, _, _, _, _, he, _, _ => by cases he
  | .dct _ _, _, _, _, _, _, he, _, _ => by cases he
  | .call _ _, _, _, _, _, _, he, _, _ => by cases he
  | .new _ _ _, _, _, _, _, _, he, _, _ => by cases he
  | .meth _ _ _ _ _, _, _, _, _, _, he, _, _ => by cases he
  | .blt _ _, _, _, _, _, _, he, _, _ => by cases he
  | .mth _ _ _, _, _, _, _, _, he, _, _ => by cases he
  | .slc _ _ _, _, _, _, _, _, he, _, _ => by cases he
  | .lc _ _ _ _ _ _, _, _, _, _, _, he, _, _ => by cases he
  | .dc _ _ _ _ _ _ _, _, _, _, _, _, he, _, _ => by cases he
end
end PL
set_option Elab.async false
set_option linter.all false
set_option maxRecDepth 100000
set_option maxHeartbeats 4000000
namespace PL
open PySem PySem.Spec PyProof.Rows L2
section
variable {p : Px} {K : PySem.W.Frag} {F : Addr → Option HO} {R : Ow} {H : Hp} {ρ : List T} {σ : L2.St} {l l' pk pk' : List (T × V)} {t u k ta tb : T} {v tv kv va vb : V}
/-- a list is taken apart -/
theorem in_dis {o : Bool} {ts : List T} (h : In K F R H ρ σ ((.nd .lst o ts, v) :: l)) : ∃ a cs, v = .ref a ∧ cs.map (·.1) = ts ∧ H a = some (.lst (cs.map (·.2))) ∧ In K F R H ρ σ (cs ++ l) := by
  cases o with
  | true =>
    obtain ⟨a, cs, w, e1, e2, c, hp, h2⟩ := in_open h
    have : w = .lst (cs.map (·.2)) := c
    subst this
    exact ⟨a, cs, e1, e2, hp, in_drop h2⟩
  | false =>
    obtain ⟨a, cs, w, e1, e2, c, hp, h2⟩ := in_ice h
    have : w = .lst (cs.map (·.2)) := c
    subst this
    exact ⟨a, cs, e1, e2, hp, in_drop (in_perm List.perm_middle h2)⟩
theorem rep_lst {M O : Ow} {o : Bool} {ts : List T} {a : Addr} (h : rep K H M (.nd .lst o ts) O (some (.ref a))) : ∃ vs O', H a = some (.lst vs) ∧ reps K H M ts O' (vs.map some) := by
  obtain ⟨p, vs, w, e, c, q⟩ := h
  have : w = .lst vs := c
  subst this
  cases e
  rcases q with ⟨_, hp, O', _, r⟩ | ⟨_, hp, _, _, r⟩
  · exact ⟨vs, O', hp, r⟩
  · exact ⟨vs, _, hp, r⟩
mutual
theorem dp_of {M : Ow} : ∀ {t : T} {d : PyData} {O : Ow} {v : V}, pdOf t = some d → rep K H M t O (some v) → Dp K H v d
  | .un, _, _, _, e, _ => by cases e
  | .cls _, _, _, _, e, _ => by cases e
  | .scr _, _, _, _, e, _ => by cases e
  | .cel _, _, _, _, e, _ => by cases e
  | .lf w, d, O, v, e, h => by
    obtain ⟨h1, _⟩ := h
    cases h1
    unfold pdOf at e
    cases w <;> cases e <;> constructor
  | .tup ts, d, O, v, e, h => by
    unfold pdOf at e
    obtain ⟨ds, e1, rfl⟩ := Option.map_eq_some_iff.mp e
    obtain ⟨a, vs, e2, hp, _, r⟩ := h
    cases e2
    exact .tup (sqt_of hp) (dps_of e1 r)
  | .nd k o ts, d, O, v, e, h => by
    cases k with
    | lst =>
      unfold pdOf at e
      obtain ⟨ds, e1, rfl⟩ := Option.map_eq_some_iff.mp e
      obtain ⟨a, vs, w, e2, c, q⟩ := h
      cases e2
      have : w = .lst vs := c
      subst this
      rcases q with ⟨_, hp, O', _, r⟩ | ⟨_, hp, _, _, r⟩
      · exact .lst (sql_of hp) (dps_of e1 r)
      · exact .lst (sql_of hp) (dps_of e1 r)
    | dct _ => cases e
    | obj _ _ => cases e
    | xd _ => cases e
theorem dps_of {M : Ow} : ∀ {ts : List T} {ds : List PyData} {O : Ow} {vs : List V}, pdsOf ts = some ds → reps K H M ts O (vs.map some) → DpAll K H vs ds
  | [], ds, O, vs, e, h => by
    cases e
    have := h.2
    cases vs with
    | nil => exact .nil
    | cons _ _ => cases this
  | t :: ts, ds, O, vs, e, h => by
    unfold pdsOf at e
    obtain ⟨d, e1, e⟩ := Option.bind_eq_some_iff.mp e
    obtain ⟨dr, e2, rfl⟩ := Option.map_eq_some_iff.mp e
    obtain ⟨O1, O2, u, us', _, e3, h1, h2⟩ := h
    cases vs with
    | nil => cases e3
    | cons v vs =>
      cases e3
      exact .cons (dp_of e1 h1) (dps_of e2 h2)
end
theorem inP_rep (h : InP K F R H ρ σ l pk) {q : T × V} (m : q ∈ pk) : ∃ M O, rep K H M q.1 O (some q.2) := by
  obtain ⟨O1, O2, a, b, c', d, e, f, g⟩ := h
  obtain ⟨O, r⟩ := g q m
  exact ⟨_, O, r⟩
theorem tru_T {b : Bool} (ht : truT t = some b) (m : (t, v) ∈ pk) (h : InP K F R H ρ σ l pk) : TruV K v H b := by
  unfold truT at ht
  split at ht
  · cases ht; rw [inP_lf (inP_mem m h)]; rfl
  · cases ht; rw [inP_lf (inP_mem m h)]; rfl
  · cases ht; rw [inP_lf (inP_mem m h)]; rfl
  · split at ht
    · rename_i hl
      cases ht
      rw [inP_lf (inP_mem m h)]
      exact ⟨hl, rfl⟩
    · cases ht
  · cases ht
    obtain ⟨a, cs, w, rfl, rfl, c, r, _⟩ := inP_nd (inP_mem m h)
    exact .inl ⟨_, sql_of (Rko.lst c r), by rw [List.isEmpty_map, List.isEmpty_map]⟩
  · cases ht
    obtain ⟨a, cs, rfl, rfl, r, _⟩ := inP_tup (inP_mem m h)
    exact .inr (.inl ⟨_, sqt_of r, by rw [List.isEmpty_map, List.isEmpty_map]⟩)
  · cases ht
    obtain ⟨a, cs, w, rfl, rfl, c, r, _⟩ := inP_nd (inP_mem m h)
    obtain ⟨hl, rfl⟩ := c
    refine .inr (.inr ⟨_, r, ?_⟩)
    rename_i ks ts
    cases ks with
    | nil => rfl
    | cons a b =>
      cases hc : cs.map (·.2) with
      | nil => rw [hc] at hl; cases hl
      | cons _ _ => rfl
  · cases ht
theorem fl_ok {w : V} (hf : flT t = some w) (m : (t, v) ∈ pk) (h : InP K F R H ρ σ l pk) : v = w ∧ flatV w = true := by
  unfold flT at hf
  split at hf
  · split at hf
    · rename_i hw
      cases hf
      exact ⟨inP_lf (inP_mem m h), hw⟩
    · cases hf
  · cases hf
theorem fls_ok : ∀ {cs : List (T × V)} {vs : List V}, mapO flT (cs.map (·.1)) = some vs → InP K F R H ρ σ l cs → cs.map (·.2) = vs ∧ vs.all flatV = true
  | [], vs, hf, _ => by
    have := mapO_nil hf
    subst this
    exact ⟨rfl, rfl⟩
  | c :: cs, vs, hf, h => by
    obtain ⟨b, bs, rfl, h1, h2⟩ := mapO_cons hf
    obtain ⟨e1, e2⟩ := fl_ok (v := c.2) h1 List.mem_cons_self h
    obtain ⟨e3, e4⟩ := fls_ok h2 (inP_sub (fun q hq => List.mem_cons_of_mem _ hq) h)
    exact ⟨by rw [List.map_cons, e1, e3], by rw [List.all_cons, e2, e4] <;> rfl⟩
theorem eqT_ok {b : Bool} (he : eqT ta tb = some b) (ma : (ta, va) ∈ pk) (mb : (tb, vb) ∈ pk) (h : InP K F R H ρ σ l pk) : ∃ d e, Dp K H va d ∧ Dp K H vb e ∧ SeqAt.shaped d = true ∧ SeqAt.shaped e = true ∧ b = PyData.eqv d e := by
  unfold eqT at he
  obtain ⟨d, h1, he⟩ := Option.bind_eq_some_iff.mp he
  obtain ⟨e, h2, he⟩ := Option.bind_eq_some_iff.mp he
  split at he
  · rename_i hs
    obtain ⟨s1, s2⟩ := Bool.and_eq_true_iff.mp hs
    obtain ⟨_, _, r1⟩ := inP_rep h ma
    obtain ⟨_, _, r2⟩ := inP_rep h mb
    cases he
    exact ⟨d, e, dp_of h1 r1, dp_of h2 r2, s1, s2, rfl⟩
  · cases he
theorem isT_ok {b neg : Bool} {Post : V → Hp → Prop} (hi : isT ta tb = some b) (ma : (ta, va) ∈ pk) (mb : (tb, vb) ∈ pk) (h : InP K F R H ρ σ l pk) (q : Post (.bl (if neg = true then !b else b)) H) : rIsN neg va vb H Post ∨ rIsBl neg va vb H Post := by
  unfold isT at hi
  split at hi
  · cases hi
    exact .inr ⟨_, _, inP_lf (inP_mem ma h), inP_lf (inP_mem mb h), q⟩
  · cases hi
    rw [inP_lf (inP_mem ma h)]
    exact .inl ⟨inP_lf (inP_mem mb h), q⟩
  · cases hi
    rw [inP_cls (inP_mem ma h)]
    exact .inl ⟨inP_lf (inP_mem mb h), by simpa using q⟩
  · cases hi
    obtain ⟨a, rfl, _⟩ := inP_scr (inP_mem ma h)
    exact .inl ⟨inP_lf (inP_mem mb h), by simpa using q⟩
  · cases hi
    obtain ⟨a, cs, rfl, _⟩ := inP_tup (inP_mem ma h)
    exact .inl ⟨inP_lf (inP_mem mb h), by simpa using q⟩
  · cases hi
    obtain ⟨a, cs, w, rfl, _⟩ := inP_nd (inP_mem ma h)
    exact .inl ⟨inP_lf (inP_mem mb h), by simpa using q⟩
  · cases hi
theorem inT_ok {b neg : Bool} {Post : V → Hp → Prop} (hi : inT ta tb = some b) (ma : (ta, va) ∈ pk) (mb : (tb, vb) ∈ pk) (h : InP K F R H ρ σ l pk) (q : Post (.bl (if neg = true then !b else b)) H) :
    (if neg = true then rNotInD K va vb H Post else rInD K va vb H Post) ∨ rIn K neg va vb H Post ∨ rStrIn neg va vb H Post ∨ rDctIn neg va vb H Post := by
  unfold inT at hi
  split at hi
  · rename_i o ts
    obtain ⟨d, h1, hi⟩ := Option.bind_eq_some_iff.mp hi
    obtain ⟨ds, h2, hi⟩ := Option.bind_eq_some_iff.mp hi
    split at hi
    · rename_i hs
      obtain ⟨s1, s2⟩ := Bool.and_eq_true_iff.mp hs
      cases hi
      obtain ⟨_, _, r1⟩ := inP_rep h ma
      obtain ⟨_, _, r2⟩ := inP_rep h mb
      have e2 : pdOf (.nd .lst o ts) = some (.list ds) := by unfold pdOf; rw [h2] <;> rfl
      refine .inl ?_
      cases neg with
      | true => exact ⟨d, ds, dp_of h1 r1, dp_of e2 r2, s1, s2, q⟩
      | false => exact ⟨d, ds, dp_of h1 r1, dp_of e2 r2, s1, s2, q⟩
    · cases hi
  · rename_i ts
    obtain ⟨w, h1, hi⟩ := Option.bind_eq_some_iff.mp hi
    obtain ⟨vs, h2, rfl⟩ := Option.map_eq_some_iff.mp hi
    obtain ⟨e1, e2⟩ := fl_ok h1 ma h
    obtain ⟨a, cs, rfl, rfl, r, h3⟩ := inP_tup (inP_mem mb h)
    obtain ⟨e3, e4⟩ := fls_ok h2 (inP_sub (fun q hq => List.mem_append_left _ hq) h3)
    subst e1
    rw [e3] at r
    exact .inr (.inl ⟨a, vs, rfl, .inr (sqt_of r), e2, e4, q⟩)
  · split at hi
    · cases hi
      exact .inr (.inr (.inl ⟨_, _, inP_lf (inP_mem ma h), inP_lf (inP_mem mb h), q⟩))
    · cases hi
  · obtain ⟨key, h1, rfl⟩ := Option.map_eq_some_iff.mp hi
    obtain ⟨a, cs, w, rfl, rfl, c, r, h3⟩ := inP_nd (inP_mem mb h)
    have ek := toKey_ok h1 (inP_mem ma h)
    exact .inr (.inr (.inr ⟨a, _, rfl, .inl ⟨_, key, Rko.dct c r, ek, rfl⟩, by rw [dget_none]; exact q⟩))
  · cases hi
theorem cmp_ok {b : Bool} {op : CmpOp} {Post : V → Hp → Prop} (hc : cmpT op ta tb = some b) (ma : (ta, va) ∈ pk) (mb : (tb, vb) ∈ pk) (h : InP K F R H ρ σ l pk) (q : Post (.bl b) H) : rCmp K op va vb H Post := by
  unfold cmpT at hc
  split at hc
  · obtain ⟨d, e, d1, d2, s1, s2, rfl⟩ := eqT_ok hc ma mb h
    exact ⟨d, e, d1, d2, s1, s2, q⟩
  · obtain ⟨b', hc', rfl⟩ := Option.map_eq_some_iff.mp hc
    obtain ⟨d, e, d1, d2, s1, s2, rfl⟩ := eqT_ok hc' ma mb h
    exact ⟨d, e, d1, d2, s1, s2, q⟩
  · cases hc; exact ⟨_, _, inP_lf (inP_mem ma h), inP_lf (inP_mem mb h), q⟩
  · cases hc; exact ⟨_, _, inP_lf (inP_mem ma h), inP_lf (inP_mem mb h), q⟩
  · cases hc; exact ⟨_, _, inP_lf (inP_mem ma h), inP_lf (inP_mem mb h), q⟩
  · cases hc; exact ⟨_, _, inP_lf (inP_mem ma h), inP_lf (inP_mem mb h), q⟩
  · exact isT_ok (neg := false) hc ma mb h q
  · obtain ⟨b', hc', rfl⟩ := Option.map_eq_some_iff.mp hc
    exact isT_ok (neg := true) hc' ma mb h q
  · exact inT_ok (neg := false) hc ma mb h q
  · obtain ⟨b', hc', rfl⟩ := Option.map_eq_some_iff.mp hc
    exact inT_ok (neg := true) hc' ma mb h q
  · cases hc
/-! ### binary operators -/
theorem in_flat {n : Nat} {cs : List (T × V)} (ho : ows (cs.map (·.1)) = false) (h : In K F R H ρ σ (cs ++ l)) : ∃ ds : List (T × V), ds.map (·.1) = (List.replicate n (cs.map (·.1))).flatten ∧ ds.map (·.2) = (List.replicate n (cs.map (·.2))).flatten ∧ In K F R H ρ σ (ds ++ l) := by
  have base : InP K F R H ρ σ l cs := by
    have gen : ∀ {cs pk : List (T × V)}, InP K F R H ρ σ (cs ++ l) pk → InP K F R H ρ σ l (cs ++ pk) := by
      intro cs
      induction cs with
      | nil => exact fun h => h
      | cons c cs ih =>
        intro pk h
        have := ih (inP_temp (t := c.1) (v := c.2) h)
        exact inP_sub (fun q hq => by
          rcases List.mem_cons.mp hq with rfl | hq
          · exact List.mem_append_right _ List.mem_cons_self
          · rcases List.mem_append.mp hq with h | h
            · exact List.mem_append_left _ h
            · exact List.mem_append_right _ (List.mem_cons_of_mem _ h)) this
    exact inP_sub (fun q hq => List.mem_append_left _ hq) (gen (inP_of h))
  have gen : ∀ n, ∃ ds : List (T × V), ds.map (·.1) = (List.replicate n (cs.map (·.1))).flatten ∧ ds.map (·.2) = (List.replicate n (cs.map (·.2))).flatten ∧ InP K F R H ρ σ (ds ++ l) cs := by
    intro n
    induction n with
    | zero => exact ⟨[], rfl, rfl, base⟩
    | succ n ih =>
      obtain ⟨ds, e1, e2, h2⟩ := ih
      refine ⟨cs ++ ds, by rw [List.map_append, e1, List.replicate_succ, List.flatten_cons], by rw [List.map_append, e2, List.replicate_succ, List.flatten_cons], ?_⟩
      rw [List.append_assoc]
      exact inP_ups ho (inP_sub (fun q hq => (List.mem_append.mp hq).elim id id) h2)
  obtain ⟨ds, e1, e2, h2⟩ := gen n
  exact ⟨ds, e1, e2, inP_in h2⟩
theorem bin_ok {op : Operator} {Q : T → Prop} {Post : V → Hp → Prop} (hb : binT op ta tb Q) (h : In K F R H ρ σ ((tb, vb) :: (ta, va) :: l)) (q : ∀ t v H', Q t → In K F R H' ρ σ ((t, v) :: l) → Post v H') : rBin K op va vb H Post := by
  have hP := inP_keep (inP_of h)
  have hA : InP K F R H ρ σ ((tb, vb) :: (ta, va) :: l) [(ta, va), (tb, vb)] := by
    have := inP_keep (inP_of (in_perm (List.Perm.swap _ _ _) h))
    obtain ⟨O1, O2, a, b, c, d, e, f, g⟩ := hP
    obtain ⟨P1, P2, u, us, rfl, e2, f1, P3, P4, u2, us2, rfl, e4, f3, f4⟩ := f
    cases e2
    cases e4
    refine ⟨O1, _, a, b, c, d, e, ⟨P1, _, _, _, rfl, rfl, f1, P3, P4, _, _, rfl, rfl, f3, f4⟩, fun r hr => ?_⟩
    rcases List.mem_cons.mp hr with rfl | hr
    · exact ⟨_, f3⟩
    · rcases List.mem_cons.mp hr with rfl | hr
      · exact ⟨_, f1⟩
      · cases hr
  have ma : (ta, va) ∈ [(ta, va), (tb, vb)] := List.mem_cons_self
  have mb : (tb, vb) ∈ [(ta, va), (tb, vb)] := List.mem_cons_of_mem _ List.mem_cons_self
  have h0 := in_drop (in_drop h)
  unfold binT at hb
  split at hb
  · exact .inl ⟨_, _, inP_lf (inP_mem ma hA), inP_lf (inP_mem mb hA), q _ _ _ hb (in_lf _ h0)⟩
  · exact .inr (.inl ⟨_, _, inP_lf (inP_mem ma hA), inP_lf (inP_mem mb hA), hb.1, q _ _ _ hb.2 (in_lf _ h0)⟩)
  · obtain ⟨b, ds, rfl, rfl, hb1, h2⟩ := in_dis h
    obtain ⟨a, cs, rfl, rfl, ha1, h3⟩ := in_dis (in_perm List.perm_middle h2)
    obtain ⟨hl, hb⟩ := hb
    rw [List.length_map, List.length_map] at hl
    refine .inr (.inr (.inl ⟨a, b, _, _, rfl, rfl, ha1, hb1, by rw [List.length_map, List.length_map]; exact hl, fun x hx => ?_⟩))
    rw [← List.map_append] at hb ⊢
    exact q _ _ _ hb (in_new (k := .lst) hx rfl (by rw [List.append_assoc]; exact h3))
  · rename_i ts us
    obtain ⟨hl, hb⟩ := hb
    have hs := in_perm (List.Perm.swap _ _ _) h
    obtain ⟨b, ds, rfl, rfl, hb1, h2⟩ := in_openT h
    obtain ⟨a, cs, rfl, rfl, ha1, h3⟩ := in_openT (in_perm List.perm_middle h2)
    rw [List.length_map, List.length_map] at hl
    refine .inr (.inr (.inr ⟨a, b, _, _, rfl, rfl, sqt_of ha1, sqt_of hb1, by rw [List.length_map, List.length_map]; exact hl, fun e => ?_, fun _ e => ?_, fun _ _ x hx => ?_⟩))
    · have e' : cs = [] := List.map_eq_nil_iff.mp e
      subst e'
      exact q _ _ _ hb (in_drop hs)
    · have e' : ds = [] := List.map_eq_nil_iff.mp e
      subst e'
      rw [List.map_nil, List.append_nil] at hb
      exact q _ _ _ hb (in_drop h)
    · rw [← List.map_append] at hb ⊢
      exact q _ _ _ hb (in_newT hx (by rw [List.append_assoc]; exact h3))
  · exact ⟨_, _, inP_lf (inP_mem ma hA), inP_lf (inP_mem mb hA), q _ _ _ hb (in_lf _ h0)⟩
  · exact .inl ⟨_, _, inP_lf (inP_mem ma hA), inP_lf (inP_mem mb hA), hb.1, q _ _ _ hb.2 (in_lf _ h0)⟩
  · rename_i o ts n
    obtain ⟨⟨h1, h2, h3, h4⟩, hb⟩ := hb
    have eb := inP_lf (inP_mem mb hA)
    obtain ⟨a, cs, rfl, rfl, ha1, h5⟩ := in_dis (in_drop h)
    obtain ⟨ds, e1, e2, h6⟩ := in_flat (n := n.toNat) h4 h5
    rw [List.length_map] at h3
    rw [← e1] at hb
    refine .inr ⟨a, n, _, rfl, eb, ha1, h1, h2, by rw [List.length_map]; exact h3, fun x hx => ?_⟩
    rw [← e2]
    exact q _ _ _ hb (in_new (k := .lst) hx rfl h6)
  · exact ⟨_, _, inP_lf (inP_mem ma hA), inP_lf (inP_mem mb hA), hb.1, q _ _ _ hb.2 (in_lf _ h0)⟩
  · exact ⟨_, _, inP_lf (inP_mem ma hA), inP_lf (inP_mem mb hA), hb.1, q _ _ _ hb.2 (in_lf _ h0)⟩
  · exact ⟨_, _, inP_lf (inP_mem ma hA), inP_lf (inP_mem mb hA), hb.1, q _ _ _ hb.2 (in_lf _ h0)⟩
  · exact hb.elim
end
end PL
set_option Elab.async false
set_option linter.all false
set_option maxRecDepth 100000
set_option maxHeartbeats 4000000
namespace PL
open PySem PySem.Spec PyProof.Rows L2
section
variable {p : Px} {K : PySem.W.Frag} {F : Addr → Option HO} {R : Ow} {H : Hp} {ρ : List T} {σ : L2.St} {l l' pk pk' : List (T × V)} {t u k ta tb : T} {v tv kv va vb : V}
theorem ints_ok : ∀ {cs : List (T × V)} {ns : List Int}, intsOf (cs.map (·.1)) = some ns → InP K F R H ρ σ l cs → cs.map (·.2) = ns.map V.int
  | [], ns, hf, _ => by cases hf; rfl
  | (c, w) :: cs, ns, hf, h => by
    rw [List.map_cons] at hf
    unfold intsOf at hf
    split at hf
    · rename_i e
      cases e
    · rename_i e
      cases e
      obtain ⟨ms, h1, rfl⟩ := Option.map_eq_some_iff.mp hf
      have e1 := inP_lf h
      have e2 := ints_ok h1 (inP_tl h)
      rw [List.map_cons, List.map_cons, e2, e1]
    · cases hf
theorem bools_ok : ∀ {cs : List (T × V)} {ns : List Bool}, boolsOf (cs.map (·.1)) = some ns → InP K F R H ρ σ l cs → cs.map (·.2) = ns.map V.bl
  | [], ns, hf, _ => by cases hf; rfl
  | (c, w) :: cs, ns, hf, h => by
    rw [List.map_cons] at hf
    unfold boolsOf at hf
    split at hf
    · rename_i e
      cases e
    · rename_i e
      cases e
      obtain ⟨ms, h1, rfl⟩ := Option.map_eq_some_iff.mp hf
      have e1 := inP_lf h
      have e2 := bools_ok h1 (inP_tl h)
      rw [List.map_cons, List.map_cons, e2, e1]
    · cases hf
theorem strs_ok : ∀ {cs : List (T × V)} {ns : List Str}, strsOf (cs.map (·.1)) = some ns → InP K F R H ρ σ l cs → cs.map (·.2) = ns.map V.str
  | [], ns, hf, _ => by cases hf; rfl
  | (c, w) :: cs, ns, hf, h => by
    rw [List.map_cons] at hf
    unfold strsOf at hf
    split at hf
    · rename_i e
      cases e
    · rename_i e
      cases e
      obtain ⟨ms, h1, rfl⟩ := Option.map_eq_some_iff.mp hf
      have e1 := inP_lf h
      have e2 := strs_ok h1 (inP_tl h)
      rw [List.map_cons, List.map_cons, e2, e1]
    · cases hf
/-- a new list of leaves -/
theorem in_leaves {vs : List V} (h : In K F R H ρ σ l) : In K F R H ρ σ ((vs.map fun w => (T.lf w, w)) ++ l) := by
  induction vs with
  | nil => exact h
  | cons w ws ih => exact in_lf w ih
theorem in_newL {vs : List V} {a : Addr} (ha : H a = none) (h : In K F R H ρ σ l) : In K F R (upd H a (.lst vs)) ρ σ ((.nd .lst true (vs.map T.lf), .ref a) :: l) := by
  have q := in_new (k := .lst) (w := .lst vs) (cs := vs.map fun w => (T.lf w, w)) ha (by show HO.lst vs = _; rw [List.map_map]; congr 1; exact (List.map_id vs).symm) (in_leaves (vs := vs) h)
  rw [List.map_map] at q
  exact q
theorem Tg_ok (kn : Kn p K) {tg : Tag} (ht : tagOf t = some tg) (hk : (tagsOf p).contains tg = true) (m : (t, v) ∈ pk) (h : InP K F R H ρ σ l pk) : TyX K H v (tg.val K) := by
  unfold tagOf at ht
  split at ht
  · cases ht; rw [inP_lf (inP_mem m h)]; exact .base .non
  · cases ht; rw [inP_lf (inP_mem m h)]; exact .base (.bl _)
  · cases ht; rw [inP_lf (inP_mem m h)]; exact .base (.int _)
  · cases ht; rw [inP_lf (inP_mem m h)]; exact .base (.str _)
  · cases ht
    obtain ⟨a, cs, rfl, rfl, r, _⟩ := inP_tup (inP_mem m h)
    exact .base (.tup r)
  · cases ht
    obtain ⟨a, cs, w, rfl, rfl, c, r, _⟩ := inP_nd (inP_mem m h)
    exact .base (.lst (Rko.lst c r))
  · cases ht
    obtain ⟨a, cs, w, rfl, rfl, c, r, _⟩ := inP_nd (inP_mem m h)
    rcases Rko.dct c r with e | ⟨o, e⟩
    · exact .base (.dK e)
    · exact .fDict e
  · rename_i C fs o ts
    cases ht
    obtain ⟨a, cs, w, rfl, rfl, c, r, _⟩ := inP_nd (inP_mem m h)
    obtain ⟨dx, e⟩ := Rko.obj c r
    have hc : p.cls.contains C = true := by
      have hm : Tag.c C ∈ tagsOf p := by simpa using hk
      unfold tagsOf baseTags at hm
      simp at hm
      simpa using hm
    have hi := kn.gm.ins C hc
    unfold insB at hi
    simp only [Bool.and_eq_true] at hi
    exact .base (.ins e (kn.cls C hc) (isBI_ok hi.1.1.1) (isBI_ok hi.1.1.2) (isOb_ok hi.1.2) (isOb_ok hi.2))
  · cases ht
def tagV (K : PySem.W.Frag) : Tag → V
  | .b n => .ty n
  | .c x => .ref (He.ga K x)
theorem tagV_ok (t : Tag) : ClsV (tagV K t) (t.val K) := by
  cases t
  · exact .ty _
  · exact .own _
theorem kitAny_ok {t : Value} {g : Tag → Bool} : ∀ {us : List Tag}, (∀ u ∈ us, PySem.W.kitOne K t (u.val K) = some (g u)) → PySem.W.kitAny K t (us.map (·.val K)) = some (us.any g)
  | [], _ => rfl
  | u :: us, h => by
    rw [List.map_cons]
    unfold PySem.W.kitAny
    rw [h u List.mem_cons_self, List.any_cons]
    cases g u with
    | true => rfl
    | false => exact kitAny_ok fun u hu => h u (List.mem_cons_of_mem _ hu)
theorem pair_ok : ∀ {us : List Tag}, Paired ClsV (us.map (tagV K)) (us.map (·.val K))
  | [] => .nil
  | u :: us => .cons (tagV_ok u) pair_ok
theorem cls1_ok {Φ : Nat → Sp} {W : WX} {c : Ex} {tg : Tag} {Post : V → Hp → Prop} (hc : cls1 c = some tg) (q : Post (tagV K tg) H) : (t2 K Φ c W).1 σ H Post := by
  unfold cls1 at hc
  split at hc
  · cases hc; exact q
  · cases hc; exact q
  · cases hc
theorem clsL_ok {Φ : Nat → Sp} {W : WX} : ∀ {es : List Ex} {us : List Tag} {Post : List V → Hp → Prop}, mapO cls1 es = some us → Post (us.map (tagV K)) H → tAof (tL K Φ es W) σ H Post
  | [], us, Post, h, q => by
    have := mapO_nil h
    subst this
    exact q
  | e :: es, us, Post, h, q => by
    obtain ⟨b, bs, rfl, h1, h2⟩ := mapO_cons h
    exact cls1_ok h1 (clsL_ok h2 q)
theorem isi_ok {Φ : Nat → Sp} {W : WX} (kn : Kn p K) {c : Ex} {tg : Tag} {us : List Tag} {Post : V → Hp → Prop} (hc : clsOf c = some us) (ht : tagOf t = some tg) (ho : okTags p tg us = true) (m : (t, v) ∈ pk) (h : InP K F R H ρ σ l pk)
    (q : ∀ H', InP K F R H' ρ σ l pk → Post (.bl (us.any (isi tg))) H') : (t2 K Φ c W).1 σ H fun w H2 => rBlt K .isinst [v, w] H2 Post := by
  obtain ⟨ho, o3⟩ := Bool.and_eq_true_iff.mp ho
  obtain ⟨o1, o2⟩ := Bool.and_eq_true_iff.mp ho
  have kt : ∀ u ∈ us, PySem.W.kitOne K (tg.val K) (u.val K) = some (isi tg u) := fun u hu => kn.gm.kit tg (by simpa using o1) u (by simpa using List.all_eq_true.mp o2 u hu)
  unfold clsOf at hc
  split at hc
  · rename_i es
    refine clsL_ok (Post := fun xs H1 => xs.length ≤ sizeLine ∧ ∀ p, H1 p = none → (rBlt K .isinst [v, .ref p] (upd H1 p (.tup xs)) Post)) hc ⟨?_, fun a ha => ?_⟩
    · rw [List.length_map, sizeLine_eq]
      have := of_decide_eq_true o3
      omega
    · have h2 := inP_drop (inP_alloc (.tup (us.map (tagV K))) ha h)
      have ty := Tg_ok kn ht o1 m h2
      exact .inr ⟨v, a, _, _, _, _, rfl, upd_same, pair_ok, ty, kitAny_ok kt, q _ h2⟩
  · obtain ⟨u, h1, rfl⟩ := Option.map_eq_some_iff.mp hc
    refine cls1_ok h1 (.inl ⟨v, _, _, _, _, rfl, tagV_ok u, Tg_ok kn ht o1 m h, kt u List.mem_cons_self, ?_⟩)
    have := q H h
    simpa using this
theorem blt_ok {b : Bl} {Q : T → Prop} {Post : V → Hp → Prop} (hb : bltT b t Q) (m : (t, v) ∈ pk) (h : InP K F R H ρ σ l pk) (q : ∀ r w H', Q r → In K F R H' ρ σ ((r, w) :: l) → Post w H') : rBlt K b [v] H Post := by
  have h0 := inP_in h
  unfold bltT at hb
  split at hb
  · obtain ⟨n, hn, hb⟩ := hb
    unfold lenT at hn
    split at hn
    · split at hn
      · rename_i hl
        cases hn
        have e := inP_lf (inP_mem m h)
        subst e
        exact .inl ⟨_, _, rfl, ⟨hl, rfl⟩, q _ _ _ hb (in_lf _ h0)⟩
      · cases hn
    · cases hn
      obtain ⟨a, cs, w, rfl, rfl, c, r, _⟩ := inP_nd (inP_mem m h)
      exact .inl ⟨_, _, rfl, .inl ⟨_, sql_of (Rko.lst c r), rfl⟩, by rw [List.length_map] at hb ⊢; exact q _ _ _ hb (in_lf _ h0)⟩
    · cases hn
      obtain ⟨a, cs, rfl, rfl, r, _⟩ := inP_tup (inP_mem m h)
      exact .inl ⟨_, _, rfl, .inr ⟨_, sqt_of r, rfl⟩, by rw [List.length_map] at hb ⊢; exact q _ _ _ hb (in_lf _ h0)⟩
    · rename_i ks o ts
      cases hn
      obtain ⟨a, cs, w, rfl, rfl, c, r, _⟩ := inP_nd (inP_mem m h)
      refine .inr ⟨a, _, rfl, Rko.dct c r, ?_⟩
      rw [List.length_zip, ← c.1, Nat.min_self]
      exact q _ _ _ hb (in_lf _ h0)
    · cases hn
  · obtain ⟨a, cs, w, rfl, rfl, c, r, h2⟩ := inP_nd (inP_mem m h)
    exact .inl ⟨a, _, rfl, .inl (sql_of (Rko.lst c r)), fun x hx => q _ _ _ hb.2 (in_new (k := .lst) hx rfl (inP_in (inP_ups hb.1 h2)))⟩
  · obtain ⟨a, cs, rfl, rfl, r, h2⟩ := inP_tup (inP_mem m h)
    exact .inl ⟨a, _, rfl, .inr (sqt_of r), fun x hx => q _ _ _ hb.2 (in_new (k := .lst) hx rfl (inP_in (inP_ups hb.1 h2)))⟩
  · rename_i ns
    obtain ⟨a, rfl, r⟩ := inP_scr (inP_mem m h)
    refine .inl ⟨a, _, rfl, .inl r, fun x hx => q _ _ _ hb ?_⟩
    have := in_newL (vs := ns.map V.int) hx h0
    rw [List.map_map] at this
    exact this
  · rename_i ks o ts
    obtain ⟨a, cs, w, rfl, rfl, c, r, h2⟩ := inP_nd (inP_mem m h)
    refine .inr ⟨a, _, rfl, Rko.dct c r, fun x hx => q _ _ _ hb ?_⟩
    have e : ((ks.zip (cs.map (·.2))).map fun kv => kV kv.1) = ks.map kV := by
      rw [show ((ks.zip (cs.map (·.2))).map fun kv => kV kv.1) = ((ks.zip (cs.map (·.2))).map (·.1)).map kV from by rw [List.map_map] <;> rfl, List.map_fst_zip (Nat.le_of_eq c.1)]
    rw [e]
    have := in_newL (vs := ks.map kV) hx h0
    rw [List.map_map] at this
    have e2 : (ks.map keyT) = ks.map (T.lf ∘ kV) := by
      apply List.map_congr_left
      intro k _
      cases k <;> rfl
    rw [e2]
    exact this
  · obtain ⟨a, cs, w, rfl, rfl, c, r, h2⟩ := inP_nd (inP_mem m h)
    exact ⟨a, _, rfl, .inl ⟨sql_of (Rko.lst c r), fun x hx => q _ _ _ hb.2 (in_newT hx (inP_in (inP_ups hb.1 h2)))⟩⟩
  · rename_i ts
    have h3 := inP_up (t := .tup ts) (v := v) hb.1 (inP_mem m h)
    obtain ⟨a, cs, rfl, rfl, r, h2⟩ := inP_tup (inP_mem m h)
    exact ⟨a, _, rfl, .inr ⟨sqt_of r, q _ _ _ hb.2 (inP_in h3)⟩⟩
  · have e := inP_lf (inP_mem m h)
    subst e
    exact .inl (.inl ⟨_, rfl, q _ _ _ hb (in_lf _ h0)⟩)
  · have e := inP_lf (inP_mem m h)
    subst e
    exact .inl (.inr ⟨_, rfl, q _ _ _ hb (in_lf _ h0)⟩)
  · have e := inP_lf (inP_mem m h)
    subst e
    exact ⟨_, rfl, hb.1, q _ _ _ hb.2 (in_lf _ h0)⟩
  · have e := inP_lf (inP_mem m h)
    subst e
    exact ⟨_, rfl, q _ _ _ hb (in_lf _ h0)⟩
  · obtain ⟨ns, h1, h2, hb⟩ := hb
    obtain ⟨a, cs, w, rfl, rfl, c, r, h3⟩ := inP_nd (inP_mem m h)
    have e := ints_ok h1 (inP_sub (fun q hq => List.mem_append_left _ hq) h3)
    have r' := sql_of (K := K) (Rko.lst c r)
    rw [e] at r'
    exact .inr ⟨a, ns, rfl, r', h2, fun m hm hy => q _ _ _ (hb m hm hy) (in_lf _ h0)⟩
  · obtain ⟨ns, h1, h2, hb⟩ := hb
    obtain ⟨a, cs, w, rfl, rfl, c, r, h3⟩ := inP_nd (inP_mem m h)
    have e := ints_ok h1 (inP_sub (fun q hq => List.mem_append_left _ hq) h3)
    have r' := sql_of (K := K) (Rko.lst c r)
    rw [e] at r'
    exact .inr ⟨a, ns, rfl, r', h2, fun m hm hy => q _ _ _ (hb m hm hy) (in_lf _ h0)⟩
  · obtain ⟨ns, h1, hb⟩ := hb
    obtain ⟨a, cs, w, rfl, rfl, c, r, h3⟩ := inP_nd (inP_mem m h)
    have e := ints_ok h1 (inP_sub (fun q hq => List.mem_append_left _ hq) h3)
    have r' := sql_of (K := K) (Rko.lst c r)
    rw [e] at r'
    exact ⟨a, ns, rfl, r', q _ _ _ hb (in_lf _ h0)⟩
  · obtain ⟨ns, h1, hb⟩ := hb
    obtain ⟨a, cs, w, rfl, rfl, c, r, h3⟩ := inP_nd (inP_mem m h)
    have e := bools_ok h1 (inP_sub (fun q hq => List.mem_append_left _ hq) h3)
    have r' := sql_of (K := K) (Rko.lst c r)
    rw [e] at r'
    exact ⟨a, ns, rfl, r', q _ _ _ hb (in_lf _ h0)⟩
  · obtain ⟨ns, h1, hb⟩ := hb
    obtain ⟨a, cs, w, rfl, rfl, c, r, h3⟩ := inP_nd (inP_mem m h)
    have e := bools_ok h1 (inP_sub (fun q hq => List.mem_append_left _ hq) h3)
    have r' := sql_of (K := K) (Rko.lst c r)
    rw [e] at r'
    exact ⟨a, ns, rfl, r', q _ _ _ hb (in_lf _ h0)⟩
  · obtain ⟨a, cs, w, rfl, rfl, c, r, h3⟩ := inP_nd (inP_mem m h)
    have h4 := inP_sub (pk' := cs) (fun q hq => List.mem_append_left _ hq) h3
    have r' := sql_of (K := K) (Rko.lst c r)
    rcases hb with ⟨ns, h1, h2, hb⟩ | ⟨ns, h1, h2, hb⟩
    · rw [ints_ok h1 h4] at r'
      refine .inl ⟨a, ns, rfl, r', h2, fun ns' x e1 e2 hx => q _ _ _ (hb ns' e1 e2) ?_⟩
      have := in_newL (vs := ns'.map V.int) hx h0
      rw [List.map_map] at this
      exact this
    · rw [strs_ok h1 h4] at r'
      refine .inr ⟨a, ns, rfl, r', h2, fun ns' x e1 e2 hx => q _ _ _ (hb ns' e1 e2) ?_⟩
      have := in_newL (vs := ns'.map V.str) hx h0
      rw [List.map_map] at this
      exact this
  · exact hb.elim
theorem blt2_ok {b : Bl} {Q : T → Prop} {Post : V → Hp → Prop} (hb : blt2T b ta tb Q) (ma : (ta, va) ∈ pk) (mb : (tb, vb) ∈ pk) (h : InP K F R H ρ σ l pk) (q : ∀ r w H', Q r → In K F R H' ρ σ ((r, w) :: l) → Post w H') : rBlt K b [va, vb] H Post := by
  have h0 := inP_in h
  unfold blt2T at hb
  split at hb
  · have e := inP_lf (inP_mem ma h)
    have e2 := inP_lf (inP_mem mb h)
    subst e e2
    exact .inl ⟨_, _, rfl, q _ _ _ hb (in_lf _ h0)⟩
  · have e := inP_lf (inP_mem ma h)
    have e2 := inP_lf (inP_mem mb h)
    subst e e2
    exact .inl ⟨_, _, rfl, q _ _ _ hb (in_lf _ h0)⟩
  · exact hb.elim
theorem cutL_map {α β : Type} (f : α → β) (xs : List α) (lo hi : Option Int) : cutL (xs.map f) lo hi = (cutL xs lo hi).map f := by
  unfold cutL
  rw [List.length_map, List.map_take, List.map_drop]
theorem cutL_V (xs : List V) (lo hi : Option Int) : cutV xs lo hi = cutL xs lo hi := rfl
theorem cutL_mem {α : Type} {xs : List α} {lo hi : Option Int} {x : α} (h : x ∈ cutL xs lo hi) : x ∈ xs := List.mem_of_mem_drop (List.mem_of_mem_take h)
theorem ows_mem : ∀ {ts : List T}, ows ts = false → ∀ t ∈ ts, ow t = false
  | [], _, _, h => by cases h
  | a :: ts, e, t, h => by
    obtain ⟨e1, e2⟩ := Bool.or_eq_false_iff.mp (show (ow a || ows ts) = false from e)
    rcases List.mem_cons.mp h with rfl | h
    · exact e1
    · exact ows_mem e2 t h
theorem ows_of : ∀ {ts : List T}, (∀ t ∈ ts, ow t = false) → ows ts = false
  | [], _ => rfl
  | a :: ts, h => by
    show (ow a || ows ts) = false
    rw [h a List.mem_cons_self, ows_of fun t ht => h t (List.mem_cons_of_mem _ ht)]
    rfl
theorem slice_ok {lo hi : Option Int} {Q : T → Prop} {Post : V → Hp → Prop} (hb : sliceT t lo hi Q) (m : (t, v) ∈ pk) (h : InP K F R H ρ σ l pk) (q : ∀ r w H', Q r → In K F R H' ρ σ ((r, w) :: l) → Post w H') : rSl K v lo hi H Post := by
  have h0 := inP_in h
  unfold sliceT at hb
  split at hb
  · obtain ⟨a, cs, w, rfl, rfl, c, r, h2⟩ := inP_nd (inP_mem m h)
    obtain ⟨ho, hb⟩ := hb
    refine .inl ⟨a, _, rfl, sql_of (Rko.lst c r), fun x hx => ?_⟩
    rw [cutL_V, cutL_map]
    rw [cutL_map] at hb
    refine q _ _ _ hb (in_new (k := .lst) hx rfl (inP_in (inP_ups (pk := []) (ows_of fun t ht => ?_) (inP_sub (fun r hr => ?_) h2))))
    · obtain ⟨c, hc, rfl⟩ := List.mem_map.mp ht
      exact ows_mem ho _ (List.mem_map_of_mem (cutL_mem hc))
    · rw [List.append_nil] at hr
      exact List.mem_append_left _ (cutL_mem hr)
  · rename_i ts
    obtain ⟨ho, hb⟩ := hb
    have h3 := inP_up (t := .tup ts) (v := v) ho (inP_mem m h)
    obtain ⟨a, cs, rfl, rfl, r, h2⟩ := inP_tup (inP_mem m h)
    refine .inr (.inl ⟨a, _, rfl, sqt_of r, fun e => ?_, fun _ x hx => ?_⟩)
    · obtain ⟨e1, e2⟩ := e
      rw [List.length_map] at e1 e2
      have : cutL (cs.map (·.1)) lo hi = cs.map (·.1) := by
        unfold cutL
        rw [List.length_map, e1, e2, List.drop_zero, Nat.sub_zero]
        exact List.take_of_length_le (by simp)
      rw [this] at hb
      exact q _ _ _ hb (inP_in h3)
    · rw [cutL_V, cutL_map]
      rw [cutL_map] at hb
      refine q _ _ _ hb (in_newT hx (inP_in (inP_ups (pk := []) (ows_of fun t ht => ?_) (inP_sub (fun r hr => ?_) h2))))
      · obtain ⟨c, hc, rfl⟩ := List.mem_map.mp ht
        exact ows_mem ho _ (List.mem_map_of_mem (cutL_mem hc))
      · rw [List.append_nil] at hr
        exact List.mem_append_left _ (cutL_mem hr)
  · have e := inP_lf (inP_mem m h)
    subst e
    exact .inr (.inr ⟨_, rfl, hb.1, q _ _ _ hb.2 (in_lf _ h0)⟩)
  · exact hb.elim
end
end PL
set_option Elab.async false
set_option linter.all false
set_option maxRecDepth 100000
set_option maxHeartbeats 4000000
namespace PL
open PySem PySem.Spec PyProof.Rows L2
section
variable {p : Px} {K : PySem.W.Frag} {F : Addr → Option HO} {R : Ow} {H : Hp} {ρ : List T} {σ : L2.St} {l l' pk pk' : List (T × V)} {t u k ta tb : T} {v tv kv va vb : V}
/-! ### places -/
def vAt (p : Px) (ρ : Ev) (σ : L2.St) (H : Hp) : Ex → Option V
  | .var i => (σ[i]?).bind id
  | .attr o f => match vAt p ρ σ H o with
    | some (.ref a) => (match H a with
      | some (.ins _ _ fs) => fs.lookup f
      | _ => none)
    | _ => none
  | .idx o i => match vAt p ρ σ H o with
    | some (.ref a) => (match H a with
      | some (.lst vs) => (match cq p i ρ with
        | some (.lf (.int k)) => atI vs k
        | _ => none)
      | some (.dK kvs) => ((cq p i ρ).bind toKey).bind fun k => valV kvs k
      | _ => none)
    | _ => none
  | _ => none
theorem vAt_attr {o : Ex} {f : Str} (h : vAt p ρ σ H (.attr o f) = some v) : ∃ a C dx fs, vAt p ρ σ H o = some (.ref a) ∧ H a = some (.ins C dx fs) ∧ fs.lookup f = some v := by
  unfold vAt at h
  split at h
  · rename_i a h1
    split at h
    · rename_i C dx fs h2
      exact ⟨a, C, dx, fs, h1, h2, h⟩
    · cases h
  · cases h
theorem vAt_idx {o i : Ex} (h : vAt p ρ σ H (.idx o i) = some v) : ∃ a, vAt p ρ σ H o = some (.ref a) ∧ ((∃ vs k, H a = some (.lst vs) ∧ cq p i ρ = some (.lf (.int k)) ∧ atI vs k = some v) ∨
    ∃ kvs t k, H a = some (.dK kvs) ∧ cq p i ρ = some t ∧ toKey t = some k ∧ valV kvs k = some v) := by
  unfold vAt at h
  split at h
  · rename_i a h1
    refine ⟨a, h1, ?_⟩
    split at h
    · rename_i vs h2
      split at h
      · rename_i k h3
        exact .inl ⟨vs, k, h2, h3, h⟩
      · cases h
    · rename_i kvs h2
      obtain ⟨k, h3, h4⟩ := Option.bind_eq_some_iff.mp h
      obtain ⟨t, h5, h6⟩ := Option.bind_eq_some_iff.mp h3
      exact .inr ⟨kvs, t, k, h2, h5, h6, h4⟩
    · cases h
  · cases h
theorem vAt_le {H' : Hp} (le : Le H H') : ∀ {o : Ex} {v : V}, vAt p ρ σ H o = some v → vAt p ρ σ H' o = some v
  | .var i, v, h => h
  | .attr o f, v, h => by
    obtain ⟨a, C, dx, fs, h1, h2, h3⟩ := vAt_attr h
    unfold vAt
    rw [vAt_le le h1]
    dsimp only
    rw [le _ _ h2]
    exact h3
  | .idx o i, v, h => by
    obtain ⟨a, h1, h2⟩ := vAt_idx h
    unfold vAt
    rw [vAt_le le h1]
    dsimp only
    rcases h2 with ⟨vs, k, h2, h3, h4⟩ | ⟨kvs, t, k, h2, h3, h4, h5⟩
    · rw [le _ _ h2]
      dsimp only
      rw [h3]
      exact h4
    · rw [le _ _ h2]
      dsimp only
      rw [h3]
      show ((toKey t).bind fun k => valV kvs k) = some v
      rw [h4]
      exact h5
  | .int _, _, h => by cases h
  | .bl _, _, h => by cases h
  | .non, _, h => by cases h
  | .str _, _, h => by cases h
  | .ty _, _, h => by cases h
  | .cls _, _, h => by cases h
  | .neg _, _, h => by cases h
  | .lst _, _, h => by cases h
  | .bin _ _ _, _, h => by cases h
  | .not _, _, h => by cases h
  | .and _ _, _, h => by cases h
  | .or _ _, _, h => by cases h
  | .ite _ _ _, _, h => by cases h
  | .cmp _ _ _, _, h => by cases h
  | .chain _ _ _ _ _, _, h => by cases h
  | .tup _, _, h => by cases h
  | .dct _ _, _, h => by cases h
  | .call _ _, _, h => by cases h
  | .new _ _ _, _, h => by cases h
  | .meth _ _ _ _ _, _, h => by cases h
  | .blt _ _, _, h => by cases h
  | .mth _ _ _, _, h => by cases h
  | .slc _ _ _, _, h => by cases h
  | .lc _ _ _ _ _ _, _, h => by cases h
  | .dc _ _ _ _ _ _ _, _, h => by cases h
/-- a child of an owned node is taken in hand -/
theorem in_child {kd : Kd} {ts : List T} {j : Nat} (hj : ts[j]? = some t) (h : In K F R H ρ σ ((.nd kd true ts, v) :: l)) : ∃ a vs w x lx, v = .ref a ∧ ts.length = vs.length ∧ cellOf K kd vs w ∧ H a = some w ∧ vs[j]? = some x ∧ In K F R H ρ σ ((t, x) :: lx ++ l) ∧
    ∀ (t' : T) (H' : Hp) (l' : List (T × V)), In K F R H' ρ σ ((t', x) :: lx ++ l') → In K F R H' ρ σ ((.nd kd true (ts.set j t'), v) :: l') := by
  obtain ⟨a, cs, w, rfl, rfl, c, hp, h2⟩ := in_open h
  have hlt : j < cs.length := by simpa using (List.getElem?_eq_some_iff.mp hj).1
  have e1 : cs = cs.take j ++ cs[j] :: cs.drop (j + 1) := by rw [List.getElem_cons_drop]; exact (List.take_append_drop j cs).symm
  have e2 : cs[j].1 = t := by
    rw [List.getElem?_map, List.getElem?_eq_getElem hlt] at hj
    exact Option.some.inj hj
  refine ⟨a, _, w, cs[j].2, (.cel w, .ref a) :: cs.take j ++ cs.drop (j + 1), rfl, by simp, c, hp, by rw [List.getElem?_map, List.getElem?_eq_getElem hlt] <;> rfl, ?_, fun t' H' l' h3 => ?_⟩
  · refine in_perm ?_ h2
    have e3 : (t, cs[j].2) = cs[j] := by rw [← e2]
    rw [e3]
    conv => lhs; rw [e1]
    simp only [List.cons_append, List.append_assoc]
    exact (List.Perm.cons _ List.perm_middle).trans (List.Perm.swap _ _ _)
  · have h4 : In K F R H' ρ σ ((.cel w, .ref a) :: (cs.set j (t', cs[j].2)) ++ l') := by
      refine in_perm ?_ h3
      have e4 : cs.set j (t', cs[j].2) = cs.take j ++ (t', cs[j].2) :: cs.drop (j + 1) := List.set_eq_take_append_cons_drop.trans (by rw [if_pos hlt])
      rw [e4]
      simp only [List.cons_append, List.append_assoc]
      exact (List.Perm.swap _ _ _).trans (List.Perm.cons _ List.perm_middle.symm)
    have e5 : (cs.set j (t', cs[j].2)).map (·.2) = cs.map (·.2) := by
      rw [List.map_set]
      exact set_same (by rw [List.getElem?_map, List.getElem?_eq_getElem hlt] <;> rfl)
    have := in_close (k := kd) (by rw [e5]; exact c) h4
    rwa [List.map_set] at this
theorem ix_find {ks : List Key} {vs : List V} {key : Key} {j : Nat} (hl : ks.length = vs.length) (hj : ks.findIdx? (fun y => decide (y = key)) = some j) : valV (ks.zip vs) key = vs[j]? := by
  induction ks generalizing vs j with
  | nil => cases hj
  | cons y ks ih =>
    cases vs with
    | nil => cases hl
    | cons x xs =>
      rw [List.findIdx?_cons] at hj
      unfold valV
      rw [List.zip_cons_cons, List.find?_cons]
      by_cases e : y = key
      · rw [if_pos (decide_eq_true e)] at hj
        cases hj
        rw [decide_eq_true (show (y, x).1 = key from e)]
        rfl
      · rw [if_neg (by simpa using e)] at hj
        obtain ⟨i, hi, rfl⟩ := Option.map_eq_some_iff.mp hj
        rw [decide_eq_false (show ¬ (y, x).1 = key from e)]
        exact ih (by simpa using hl) hi
theorem dg_find {ks : List Key} {ts : List T} {key : Key} {j : Nat} (hl : ks.length = ts.length) (hj : ks.findIdx? (fun y => decide (y = key)) = some j) : dgetT ks ts key = ts[j]? := by
  induction ks generalizing ts j with
  | nil => cases hj
  | cons y ks ih =>
    cases ts with
    | nil => cases hl
    | cons x xs =>
      rw [List.findIdx?_cons] at hj
      unfold dgetT
      rw [List.zip_cons_cons, List.find?_cons]
      by_cases e : y = key
      · rw [if_pos (decide_eq_true e)] at hj
        cases hj
        rw [decide_eq_true (show (y, x).1 = key from e)]
        rfl
      · rw [if_neg (by simpa using e)] at hj
        obtain ⟨i, hi, rfl⟩ := Option.map_eq_some_iff.mp hj
        rw [decide_eq_false (show ¬ (y, x).1 = key from e)]
        exact ih (by simpa using hl) hi
theorem fd_find {fs : List Str} {vs : List V} {f : Str} {j : Nat} (hl : fs.length = vs.length) (hj : fs.findIdx? (fun y => decide (y = f)) = some j) : (fs.zip vs).lookup f = vs[j]? := by
  induction fs generalizing vs j with
  | nil => cases hj
  | cons y ks ih =>
    cases vs with
    | nil => cases hl
    | cons x xs =>
      rw [List.findIdx?_cons] at hj
      rw [List.zip_cons_cons, List.lookup_cons]
      by_cases e : y = f
      · rw [if_pos (decide_eq_true e)] at hj
        cases hj
        subst e
        rw [beq_self_eq_true]
        rfl
      · rw [if_neg (by simpa using e)] at hj
        obtain ⟨i, hi, rfl⟩ := Option.map_eq_some_iff.mp hj
        rw [show (f == y) = false from by simpa using fun h => e h.symm]
        exact ih (by simpa using hl) hi
theorem fdT_find {fs : List Str} {ts : List T} {f : Str} {j : Nat} (hl : fs.length = ts.length) (hj : fs.findIdx? (fun y => decide (y = f)) = some j) : (fs.zip ts).lookup f = ts[j]? := by
  induction fs generalizing ts j with
  | nil => cases hj
  | cons y ks ih =>
    cases ts with
    | nil => cases hl
    | cons x xs =>
      rw [List.findIdx?_cons] at hj
      rw [List.zip_cons_cons, List.lookup_cons]
      by_cases e : y = f
      · rw [if_pos (decide_eq_true e)] at hj
        cases hj
        subst e
        rw [beq_self_eq_true]
        rfl
      · rw [if_neg (by simpa using e)] at hj
        obtain ⟨i, hi, rfl⟩ := Option.map_eq_some_iff.mp hj
        rw [show (f == y) = false from by simpa using fun h => e h.symm]
        exact ih (by simpa using hl) hi
theorem nd_len {kd : Kd} {o : Bool} {ts : List T} (h : InP K F R H ρ σ l ((.nd kd o ts, v) :: pk)) : (match kd with | .lst => True | .dct ks => ks.length = ts.length | .obj _ fs => fs.length = ts.length | .xd fs => fs.length = ts.length) := by
  obtain ⟨a, cs, w, rfl, rfl, c, _, _⟩ := inP_nd h
  cases kd with
  | lst => trivial
  | dct ks => simpa using c.1
  | obj C fs => simpa using c.1
  | xd fs => simpa using c.1
/-- the place is opened -/
theorem pl_open : ∀ (o : Ex) {t t0 : T} {ρ1 : Ev} {l : List (T × V)}, cq p o ρ = some t → cput p o ρ t0 = some ρ1 → In K F R H ρ σ l → ∃ v ρ0 lx, vAt p ρ σ H o = some v ∧ In K F R H ρ0 σ ((t, v) :: lx ++ l) ∧
    ∀ t' ρ', cput p o ρ t' = some ρ' → ∀ H' l', In K F R H' ρ0 σ ((t', v) :: lx ++ l') → In K F R H' ρ' σ l'
  | .var i, t, t0, ρ1, l, hq, hp, h => by
    unfold cq at hq
    obtain ⟨h1, h2⟩ := or_un (α := T) hq
    obtain ⟨v, hv, h3⟩ := in_take h1 h2 h
    refine ⟨v, _, [], ?_, h3, fun t' ρ' hp' H' l' h4 => ?_⟩
    · unfold vAt
      rw [hv]
      rfl
    · unfold cput at hp'
      cases hp'
      have := in_put' hv h4
      rwa [List.set_set] at this
  | .attr o f, t, t0, ρ1, l, hq, hp, h => by
    unfold cput at hp
    split at hp
    · rename_i C fs ts hn
      obtain ⟨j, hj, hp⟩ := Option.bind_eq_some_iff.mp hp
      obtain ⟨v, ρ0, lx, e1, h1, back⟩ := pl_open o hn hp h
      have hl := nd_len (kd := .obj C fs) (inP_keep (inP_of h1))
      unfold cq at hq
      rw [hn] at hq
      obtain ⟨hq, hu⟩ := or_un (α := T) hq
      have hq : (if okAt p C f = true then (fs.zip ts).lookup f else none) = some t := hq
      · split at hq
        · rw [fdT_find hl hj] at hq
          obtain ⟨a, vs, w, x, ly, rfl, hl2, c, ha, hx, h2, close⟩ := in_child hq h1
          obtain ⟨hc, dx, rfl⟩ := c
          refine ⟨x, ρ0, ly ++ lx, ?_, by simpa [List.append_assoc] using h2, fun t' ρ' hp' H' l' h3 => ?_⟩
          · unfold vAt
            rw [e1]
            dsimp only
            rw [ha]
            dsimp only
            rw [fd_find (by omega) hj]
            exact hx
          · unfold cput at hp'
            rw [hn] at hp'
            dsimp only at hp'
            rw [hj] at hp'
            exact back _ ρ' hp' H' l' (close t' H' (lx ++ l') (by simpa [List.append_assoc] using h3))
        · cases hq
    · cases hp
  | .idx o i, t, t0, ρ1, l, hq, hp, h => by
    unfold cput at hp
    split at hp
    · rename_i ts k hn hk
      obtain ⟨j, hj, hp⟩ := Option.bind_eq_some_iff.mp hp
      obtain ⟨v, ρ0, lx, e1, h1, back⟩ := pl_open o hn hp h
      unfold cq at hq
      rw [hn, hk] at hq
      obtain ⟨hq, hu⟩ := or_un (α := T) hq
      have hq' : ts[j]? = some t := by
        have : atI ts k = some t := hq
        unfold atI at this
        rw [hj] at this
        exact this
      obtain ⟨a, vs, w, x, ly, rfl, hl2, c, ha, hx, h2, close⟩ := in_child hq' h1
      have c' : w = .lst vs := c
      subst c'
      refine ⟨x, ρ0, ly ++ lx, ?_, by simpa [List.append_assoc] using h2, fun t' ρ' hp' H' l' h3 => ?_⟩
      · unfold vAt
        rw [e1]
        dsimp only
        rw [ha]
        dsimp only
        rw [hk]
        show atI vs k = some x
        unfold atI
        rw [← hl2, hj]
        exact hx
      · unfold cput at hp'
        rw [hn, hk] at hp'
        dsimp only at hp'
        rw [hj] at hp'
        exact back _ ρ' hp' H' l' (close t' H' (lx ++ l') (by simpa [List.append_assoc] using h3))
    · rename_i ks ts kt hn hk
      obtain ⟨key, hkey, hp⟩ := Option.bind_eq_some_iff.mp hp
      obtain ⟨j, hj, hp⟩ := Option.bind_eq_some_iff.mp hp
      obtain ⟨v, ρ0, lx, e1, h1, back⟩ := pl_open o hn hp h
      have hl := nd_len (kd := .dct ks) (inP_keep (inP_of h1))
      unfold cq at hq
      rw [hn, hk] at hq
      obtain ⟨hq, hu⟩ := or_un (α := T) hq
      have hq' : ts[j]? = some t := by
        have : (toKey kt).bind (fun k => dgetT ks ts k) = some t := by
          unfold idxT at hq
          exact hq
        rw [hkey] at this
        have this : dgetT ks ts key = some t := this
        rwa [dg_find hl hj] at this
      obtain ⟨a, vs, w, x, ly, rfl, hl2, c, ha, hx, h2, close⟩ := in_child hq' h1
      obtain ⟨hc, rfl⟩ := c
      refine ⟨x, ρ0, ly ++ lx, ?_, by simpa [List.append_assoc] using h2, fun t' ρ' hp' H' l' h3 => ?_⟩
      · unfold vAt
        rw [e1]
        dsimp only
        rw [ha]
        dsimp only
        rw [hk]
        show ((toKey kt).bind fun k => valV (ks.zip vs) k) = some x
        rw [hkey]
        show valV (ks.zip vs) key = some x
        rw [ix_find hc hj]
        exact hx
      · unfold cput at hp'
        rw [hn, hk] at hp'
        dsimp only at hp'
        rw [hkey] at hp'
        change ((ks.findIdx? fun y => decide (y = key)).bind fun j => _) = some ρ' at hp'
        rw [hj] at hp'
        exact back _ ρ' hp' H' l' (close t' H' (lx ++ l') (by simpa [List.append_assoc] using h3))
    · cases hp
  | .int _, _, _, _, _, _, h, _ => by cases h
  | .bl _, _, _, _, _, _, h, _ => by cases h
  | .non, _, _, _, _, _, h, _ => by cases h
  | .str _, _, _, _, _, _, h, _ => by cases h
  | .ty _, _, _, _, _, _, h, _ => by cases h
  | .cls _, _, _, _, _, _, h, _ => by cases h
  | .neg _, _, _, _, _, _, h, _ => by cases h
  | .lst _, _, _, _, _, _, h, _ => by cases h
  | .bin _ _ _, _, _, _, _, _, h, _ => by cases h
  | .not _, _, _, _, _, _, h, _ => by cases h
  | .and _ _, _, _, _, _, _, h, _ => by cases h
  | .or _ _, _, _, _, _, _, h, _ => by cases h
  | .ite _ _ _, _, _, _, _, _, h, _ => by cases h
  | .cmp _ _ _, _, _, _, _, _, h, _ => by cases h
  | .chain _ _ _ _ _, _, _, _, _, _, h, _ => by cases h
  | .tup _, _, _, _, _, _, h, _ => by cases h
  | .dct _ _, _, _, _, _, _, h, _ => by cases h
  | .call _ _, _, _, _, _, _, h, _ => by cases h
  | .new _ _ _, _, _, _, _, _, h, _ => by cases h
  | .meth _ _ _ _ _, _, _, _, _, _, h, _ => by cases h
  | .blt _ _, _, _, _, _, _, h, _ => by cases h
  | .mth _ _ _, _, _, _, _, _, h, _ => by cases h
  | .slc _ _ _, _, _, _, _, _, h, _ => by cases h
  | .lc _ _ _ _ _ _, _, _, _, _, _, h, _ => by cases h
  | .dc _ _ _ _ _ _ _, _, _, _, _, _, h, _ => by cases h
end
end PL
set_option Elab.async false
set_option linter.all false
set_option maxRecDepth 100000
set_option maxHeartbeats 4000000
namespace PL
open PySem PySem.Spec PyProof.Rows L2
section
variable {p : Px} {K : PySem.W.Frag} {F : Addr → Option HO} {R : Ow} {H : Hp} {ρ : List T} {σ : L2.St} {l l' pk pk' : List (T × V)} {t u k ta tb : T} {v tv kv va vb : V}
theorem inP_skip {a b : T × V} (h : InP K F R H ρ σ l (a :: b :: pk)) : InP K F R H ρ σ l (a :: pk) := inP_sub (fun r hr => by
  rcases List.mem_cons.mp hr with rfl | hr
  · exact List.mem_cons_self
  · exact List.mem_cons_of_mem _ (List.mem_cons_of_mem _ hr)) h
theorem inP_app {cs : List (T × V)} {c q : T × V} (m : c ∈ cs) (h : InP K F R H ρ σ l (cs ++ q :: pk)) : InP K F R H ρ σ l (c :: pk) := inP_sub (fun r hr => by
  rcases List.mem_cons.mp hr with rfl | hr
  · exact List.mem_append_left _ m
  · exact List.mem_append_right _ (List.mem_cons_of_mem _ hr)) h
theorem lst_at {t0 : T} {a : Addr} {vs : List V} {k : Int} (hp : H a = some (.lst vs)) (h4 : atI vs k = some v) (hi : idxT t0 (.lf (.int k)) = some t) (m : (t0, .ref a) ∈ pk) (h : InP K F R H ρ σ l pk) : InP K F R H ρ σ l ((t, v) :: pk) := by
  have h5 := inP_mem m h
  cases t0 with
  | un => cases hi
  | cls _ => cases hi
  | scr _ => cases hi
  | cel _ => cases hi
  | lf w =>
    have := inP_lf h5
    subst this
    cases hi
  | tup ts =>
    obtain ⟨a', cs, e1, _, r, _⟩ := inP_tup h5
    cases e1
    rw [hp] at r
    cases r
  | nd kd o ts =>
    obtain ⟨a', cs, w, e1, e6, c, r, h8⟩ := inP_nd h5
    cases e1
    cases kd with
    | lst =>
      have r' := Rko.lst c r
      rw [hp] at r'
      cases r'
      rw [← e6] at hi
      have hi : atI (cs.map (·.1)) k = some t := hi
      obtain ⟨z', e7, e8⟩ := atI_pair hi
      rw [h4] at e7
      cases e7
      exact inP_app e8 h8
    | dct ks =>
      rcases Rko.dct c r with r | ⟨o, r⟩
      · rw [hp] at r; cases r
      · rw [hp] at r; cases r
    | obj _ _ => cases hi
    | xd _ => cases hi
theorem dct_at {t0 tk : T} {a : Addr} {kvs : List (Key × V)} {key : Key} (hp : H a = some (.dK kvs)) (hk : toKey tk = some key) (h4 : valV kvs key = some v) (hi : idxT t0 tk = some t) (m : (t0, .ref a) ∈ pk) (h : InP K F R H ρ σ l pk) :
    isDct t0 = true ∧ InP K F R H ρ σ l ((t, v) :: pk) := by
  have h5 := inP_mem m h
  cases t0 with
  | un => cases hi
  | cls _ => cases hi
  | scr _ => cases hi
  | cel _ => cases hi
  | lf w =>
    have := inP_lf h5
    subst this
    cases hi
  | tup ts =>
    obtain ⟨a', cs, e1, _, r, _⟩ := inP_tup h5
    cases e1
    rw [hp] at r
    cases r
  | nd kd o ts =>
    obtain ⟨a', cs, w, e1, e6, c, r, h8⟩ := inP_nd h5
    cases e1
    cases kd with
    | lst =>
      have r' := Rko.lst c r
      rw [hp] at r'
      cases r'
    | dct ks =>
      refine ⟨rfl, ?_⟩
      have hi : (toKey tk).bind (fun k => dgetT ks ts k) = some t := by
        unfold idxT at hi
        exact hi
      rw [hk] at hi
      have hi : dgetT ks ts key = some t := hi
      rw [← e6] at hi
      obtain ⟨z', e7, e8⟩ := dget_pair hi
      rcases Rko.dct c r with r | ⟨o, r⟩
      · rw [hp] at r
        cases r
        rw [h4] at e7
        cases e7
        exact inP_app e8 h8
      · rw [hp] at r
        cases r
    | obj _ _ => cases hi
    | xd _ => cases hi
/-- the place is read: the value that stands there -/
theorem pl_read {Φ : Nat → Sp} {W : WX} (kn : Kn p K) : ∀ (o : Ex) {t : T} {v : V} {H : Hp} {l pk : List (T × V)} {Post : V → Hp → Prop}, cq p o ρ = some t → vAt p ρ σ H o = some v → InP K F R H ρ σ l pk →
    (∀ H', Le H H' → InP K F R H' ρ σ l ((t, v) :: pk) → Post v H') → (t2 K Φ o W).1 σ H Post
  | .var i, t, v, H, l, pk, Post, hq, hv, h, q => by
    unfold cq at hq
    obtain ⟨h1, h2⟩ := or_un (α := T) hq
    obtain ⟨v', hv', h3⟩ := inP_env h1 h2 h
    unfold vAt at hv
    rw [hv'] at hv
    cases hv
    exact ⟨v, hv', q H Le.rfl h3⟩
  | .attr o f, t, v, H, l, pk, Post, hq, hv, h, q => by
    obtain ⟨a, C, dx, fs, h1, h2, h3⟩ := vAt_attr hv
    unfold cq at hq
    obtain ⟨t0, q0, q1⟩ := Option.bind_eq_some_iff.mp hq
    obtain ⟨q2, q3⟩ := or_un (α := T) q1
    refine pl_read kn o q0 h1 h fun H' le h4 => ?_
    obtain ⟨a', C', dx', fs', z, e1, e2, e3, e4, e5, h5⟩ := fld_ok (Post := fun z H' => InP K F R H' ρ σ l ((t, z) :: (t0, .ref a) :: pk)) kn q2 h4 fun z hz => hz
    cases e1
    have e6 := le _ _ h2
    rw [e2] at e6
    cases e6
    rw [h3] at e5
    cases e5
    exact ⟨a, _, _, _, v, rfl, e2, e3, e4, h3, q H' le (inP_skip h5)⟩
  | .idx o i, t, v, H, l, pk, Post, hq, hv, h, q => by
    obtain ⟨a, h1, h2⟩ := vAt_idx hv
    unfold cq at hq
    obtain ⟨t0, q0, q1⟩ := Option.bind_eq_some_iff.mp hq
    obtain ⟨tk, qk, q1⟩ := Option.bind_eq_some_iff.mp q1
    obtain ⟨q2, q3⟩ := or_un (α := T) q1
    have fin : ∀ {z w : V} {t1 t2 : T} {H2 : Hp}, InP K F R H2 ρ σ l ((t, v) :: (t1, w) :: (t2, z) :: pk) → InP K F R H2 ρ σ l ((t, v) :: pk) := fun hz => inP_skip (inP_skip hz)
    rcases h2 with ⟨vs, k, h2, h3, h4⟩ | ⟨kvs, tk', key, h2, h3, h4, h5⟩
    · rw [h3] at qk
      cases qk
      refine .inl (pl_read kn o q0 h1 h fun H' le h5 => q_ok kn i h3 h5 fun w H2 _ le2 h6 => ?_)
      have ew := inP_lf h6
      subst ew
      have hp := le2 _ _ (le _ _ h2)
      exact .inl ⟨a, vs, k, v, rfl, rfl, sql_of hp, h4, q H2 (le.trans le2) (fin (lst_at hp h4 q2 (List.mem_cons_of_mem _ List.mem_cons_self) h6))⟩
    · rw [h3] at qk
      cases qk
      refine .inr (pl_read kn o q0 h1 h fun H' le h6 => q_ok kn i h3 h6 fun w H2 _ le2 h7 => ?_)
      have ew := toKey_ok h4 h7
      subst ew
      have hp := le2 _ _ (le _ _ h2)
      exact ⟨a, v, rfl, .inl ⟨kvs, key, .inl hp, rfl, h5.symm⟩, q H2 (le.trans le2) (fin (dct_at hp h4 h5 q2 (List.mem_cons_of_mem _ List.mem_cons_self) h7).2)⟩
  | .int _, _, _, _, _, _, _, _, h, _, _ => by cases h
  | .bl _, _, _, _, _, _, _, _, h, _, _ => by cases h
  | .non, _, _, _, _, _, _, _, h, _, _ => by cases h
  | .str _, _, _, _, _, _, _, _, h, _, _ => by cases h
  | .ty _, _, _, _, _, _, _, _, h, _, _ => by cases h
  | .cls _, _, _, _, _, _, _, _, h, _, _ => by cases h
  | .neg _, _, _, _, _, _, _, _, h, _, _ => by cases h
  | .lst _, _, _, _, _, _, _, _, h, _, _ => by cases h
  | .bin _ _ _, _, _, _, _, _, _, _, h, _, _ => by cases h
  | .not _, _, _, _, _, _, _, _, h, _, _ => by cases h
  | .and _ _, _, _, _, _, _, _, _, h, _, _ => by cases h
  | .or _ _, _, _, _, _, _, _, _, h, _, _ => by cases h
  | .ite _ _ _, _, _, _, _, _, _, _, h, _, _ => by cases h
  | .cmp _ _ _, _, _, _, _, _, _, _, h, _, _ => by cases h
  | .chain _ _ _ _ _, _, _, _, _, _, _, _, h, _, _ => by cases h
  | .tup _, _, _, _, _, _, _, _, h, _, _ => by cases h
  | .dct _ _, _, _, _, _, _, _, _, h, _, _ => by cases h
  | .call _ _, _, _, _, _, _, _, _, h, _, _ => by cases h
  | .new _ _ _, _, _, _, _, _, _, _, h, _, _ => by cases h
  | .meth _ _ _ _ _, _, _, _, _, _, _, _, h, _, _ => by cases h
  | .blt _ _, _, _, _, _, _, _, _, h, _, _ => by cases h
  | .mth _ _ _, _, _, _, _, _, _, _, h, _, _ => by cases h
  | .slc _ _ _, _, _, _, _, _, _, _, h, _, _ => by cases h
  | .lc _ _ _ _ _ _, _, _, _, _, _, _, _, h, _, _ => by cases h
  | .dc _ _ _ _ _ _ _, _, _, _, _, _, _, _, h, _, _ => by cases h
end
end PL
set_option Elab.async false
set_option linter.all false
set_option maxRecDepth 100000
set_option maxHeartbeats 4000000
namespace PL
open PySem PySem.Spec PyProof.Rows L2
section
variable {p : Px} {K : PySem.W.Frag} {F : Addr → Option HO} {R : Ow} {H : Hp} {ρ : List T} {σ : L2.St} {l l' pk pk' : List (T × V)} {t u k ta tb te : T} {v tv kv va vb ve : V}
/-! ### methods of lists -/
theorem perm_erase {α : Type} {cs : List α} {j : Nat} (h : j < cs.length) : cs.Perm (cs[j] :: cs.eraseIdx j) := by
  rw [List.eraseIdx_eq_take_drop_succ]
  have e : cs = cs.take j ++ cs[j] :: cs.drop (j + 1) := by rw [List.getElem_cons_drop]; exact (List.take_append_drop j cs).symm
  have q : (cs.take j ++ cs[j] :: cs.drop (j + 1)).Perm (cs[j] :: (cs.take j ++ cs.drop (j + 1))) := List.perm_middle
  rw [← e] at q
  exact q
theorem perm_set {α : Type} {cs : List α} {j : Nat} {x : α} (h : j < cs.length) : (cs.set j x).Perm (x :: cs.eraseIdx j) := by
  rw [List.eraseIdx_eq_take_drop_succ]
  have e4 : cs.set j x = cs.take j ++ x :: cs.drop (j + 1) := List.set_eq_take_append_cons_drop.trans (by rw [if_pos h])
  rw [e4]
  exact List.perm_middle
theorem perm_last {α : Type} {cs : List α} (h : cs.length - 1 < cs.length) : cs.Perm (cs[cs.length - 1] :: cs.dropLast) := by
  have hne : cs ≠ [] := fun e => by subst e; simp at h
  have e := List.dropLast_concat_getLast hne
  rw [List.getLast_eq_getElem hne] at e
  have q : (cs.dropLast ++ [cs[cs.length - 1]]).Perm (cs[cs.length - 1] :: cs.dropLast) := List.perm_append_comm
  rwa [e] at q
theorem erase_map {α β : Type} (f : α → β) (cs : List α) (j : Nat) : (cs.eraseIdx j).map f = (cs.map f).eraseIdx j := by
  rw [List.eraseIdx_eq_take_drop_succ, List.eraseIdx_eq_take_drop_succ, List.map_append, List.map_take, List.map_drop]
theorem in_openL {ts : List T} (h : In K F R H ρ σ ((.nd .lst true ts, v) :: l)) : ∃ a cs, v = .ref a ∧ cs.map (·.1) = ts ∧ H a = some (.lst (cs.map (·.2))) ∧ In K F R H ρ σ ((.cel (.lst (cs.map (·.2))), .ref a) :: cs ++ l) := by
  obtain ⟨a, cs, w, e1, e2, c, hp, h2⟩ := in_open h
  have : w = .lst (cs.map (·.2)) := c
  subst this
  exact ⟨a, cs, e1, e2, hp, h2⟩
/-- a list is written anew -/
theorem in_wr {a : Addr} {w : HO} {cs : List (T × V)} (h : In K F R H ρ σ ((.cel w, .ref a) :: cs ++ l)) : In K F R (upd H a (.lst (cs.map (·.2)))) ρ σ ((.nd .lst true (cs.map (·.1)), .ref a) :: l) :=
  in_close (k := .lst) rfl (in_write _ h)
theorem mth1_ok {m : Mt} {Q : T → T → Prop} {Post : V → Hp → Prop} (hb : mth1T m t te Q) (h : In K F R H ρ σ ((te, ve) :: (t, v) :: l))
    (q : ∀ t' r w H', Q t' r → In K F R H' ρ σ ((t', v) :: (r, w) :: l) → Post w H') : (match m with | .append => rAppend | .pop1 => rPopAt | .extend => rExtend | _ => fun _ _ _ _ => False) v [ve] H Post := by
  unfold mth1T at hb
  split at hb
  · obtain ⟨hl, hb⟩ := hb
    obtain ⟨a, cs, rfl, rfl, hp, h2⟩ := in_openL (in_perm (List.Perm.swap _ _ _) h)
    refine ⟨a, _, ve, rfl, rfl, hp, by rw [List.length_map] at hl ⊢; exact hl, ?_⟩
    have h3 : In K F R H ρ σ ((.cel (.lst (cs.map (·.2))), .ref a) :: (cs ++ [(te, ve)]) ++ l) := in_perm (by simp) h2
    have h4 := in_wr h3
    rw [List.map_append, List.map_append] at h4
    exact q _ _ _ _ hb (in_perm (List.Perm.swap _ _ _) (in_lf .non h4))
  · rename_i ts i
    obtain ⟨j, y, b1, b2, b3, b4, hb⟩ := hb
    have ei := in_fl h
    subst ei
    obtain ⟨a, cs, rfl, rfl, hp, h2⟩ := in_openL (in_drop h)
    rw [List.length_map] at b3
    have hlt : j < cs.length := by simpa using (List.getElem?_eq_some_iff.mp b4).1
    have e2 : cs[j].1 = y := by
      rw [List.getElem?_map, List.getElem?_eq_getElem hlt] at b4
      exact Option.some.inj b4
    refine ⟨a, _, i, j, cs[j].2, rfl, rfl, hp, b1, b2, by rw [List.length_map]; exact b3, by rw [List.getElem?_map, List.getElem?_eq_getElem hlt] <;> rfl, ?_⟩
    have h3 : In K F R H ρ σ ((.cel (.lst (cs.map (·.2))), .ref a) :: (cs.eraseIdx j) ++ (cs[j] :: l)) :=
      in_perm (List.Perm.cons _ (((perm_erase hlt).append_right l).trans List.perm_middle.symm)) h2
    have h4 := in_wr h3
    rw [erase_map, erase_map] at h4
    have e5 : cs[j] = (y, cs[j].2) := by rw [← e2]
    rw [e5] at h4
    exact q _ _ _ _ hb h4
  · rename_i ts o us
    obtain ⟨hl, hb⟩ := hb
    obtain ⟨b, ds, rfl, rfl, hb1, h2⟩ := in_dis h
    obtain ⟨a, cs, rfl, rfl, hp, h3⟩ := in_openL (in_perm List.perm_middle h2)
    refine ⟨a, b, _, _, rfl, rfl, hp, hb1, by simpa using hl, ?_⟩
    have h4 : In K F R H ρ σ ((.cel (.lst (cs.map (·.2))), .ref a) :: (cs ++ ds) ++ l) := by rw [← List.cons_append, List.append_assoc]; exact h3
    have h5 := in_wr h4
    rw [List.map_append, List.map_append] at h5
    exact q _ _ _ _ hb (in_perm (List.Perm.swap _ _ _) (in_lf .non h5))
  · exact hb.elim
theorem mth0_ok {m : Mt} {Q : T → T → Prop} {Post : V → Hp → Prop} (hb : mth0T m t Q) (h : In K F R H ρ σ ((t, v) :: l))
    (q : ∀ t' r w H', Q t' r → In K F R H' ρ σ ((t', v) :: (r, w) :: l) → Post w H') : m = .pop0 ∧ rPop v [] H Post := by
  unfold mth0T at hb
  split at hb
  · refine ⟨rfl, ?_⟩
    obtain ⟨y, b4, hb⟩ := hb
    obtain ⟨a, cs, rfl, rfl, hp, h2⟩ := in_openL h
    rw [List.length_map] at b4
    have hlt : cs.length - 1 < cs.length := by simpa using (List.getElem?_eq_some_iff.mp b4).1
    have e2 : cs[cs.length - 1].1 = y := by
      rw [List.getElem?_map, List.getElem?_eq_getElem hlt] at b4
      exact Option.some.inj b4
    refine ⟨a, _, cs[cs.length - 1].2, rfl, rfl, hp, by rw [List.length_map, List.getElem?_map, List.getElem?_eq_getElem hlt] <;> rfl, ?_⟩
    have h3 : In K F R H ρ σ ((.cel (.lst (cs.map (·.2))), .ref a) :: cs.dropLast ++ (cs[cs.length - 1] :: l)) :=
      in_perm (List.Perm.cons _ (((perm_last hlt).append_right l).trans List.perm_middle.symm)) h2
    have h4 := in_wr h3
    rw [List.map_dropLast, List.map_dropLast] at h4
    have e5 : cs[cs.length - 1] = (y, cs[cs.length - 1].2) := by rw [← e2]
    rw [e5] at h4
    exact q _ _ _ _ hb h4
  · exact hb.elim
/-! ### stores -/
theorem putDv_len {α : Type} {k : Key} {t : α} : ∀ {ks : List Key} {xs : List α}, ks.length = xs.length → (putDv ks xs k t).length = xs.length
  | [], [], _ => rfl
  | [], _ :: _, h => by cases h
  | _ :: _, [], h => by cases h
  | y :: ks, x :: xs, h => by
    show ((if y = k then t else x) :: putDv ks xs k t).length = _
    rw [List.length_cons, List.length_cons, putDv_len (by simpa using h)]
theorem putDv_zip {k : Key} {t : V} : ∀ {ks : List Key} {xs : List V}, ks.length = xs.length → (ks.zip xs).map (fun kv => if kv.1 = k then (kv.1, t) else kv) = ks.zip (putDv ks xs k t)
  | [], [], _ => rfl
  | [], _ :: _, h => by cases h
  | _ :: _, [], h => by cases h
  | y :: ks, x :: xs, h => by
    rw [List.zip_cons_cons, List.map_cons, putDv_zip (by simpa using h), putDv, List.zip_cons_cons]
    by_cases e : y = k
    · rw [if_pos e, if_pos e]
    · rw [if_neg e, if_neg e]
theorem any_zip {k : Key} : ∀ {ks : List Key} {xs : List V}, ks.length = xs.length → ((ks.zip xs).any fun kv => decide (kv.1 = k)) = ks.any fun y => decide (y = k)
  | [], [], _ => rfl
  | [], _ :: _, h => by cases h
  | _ :: _, [], h => by cases h
  | y :: ks, x :: xs, h => by
    rw [List.zip_cons_cons, List.any_cons, List.any_cons, any_zip (by simpa using h)]
theorem putD_zip {k : Key} {t : V} {ks : List Key} {xs : List V} (h : ks.length = xs.length) : putK (ks.zip xs) k t = (putD ks xs k t).1.zip (putD ks xs k t).2 ∧ (putD ks xs k t).1.length = (putD ks xs k t).2.length := by
  unfold putK putD
  rw [any_zip h]
  by_cases e : (ks.any fun y => decide (y = k)) = true
  · rw [if_pos e, if_pos e]
    exact ⟨putDv_zip h, by rw [putDv_len h]; exact h⟩
  · rw [if_neg e, if_neg e]
    exact ⟨by rw [List.zip_append h] <;> rfl, by simp [h]⟩
theorem putDv_id {α : Type} {k : Key} {t : α} : ∀ {ks : List Key} {xs : List α}, ks.length = xs.length → (∀ y ∈ ks, y ≠ k) → putDv ks xs k t = xs
  | [], [], _, _ => rfl
  | [], _ :: _, h, _ => by cases h
  | _ :: _, [], h, _ => by cases h
  | y :: ks, x :: xs, h, n => by
    show (if y = k then t else x) :: putDv ks xs k t = _
    rw [if_neg (n y List.mem_cons_self), putDv_id (by simpa using h) fun y hy => n y (List.mem_cons_of_mem _ hy)]
/-- the children with (t, v) put in at the key -/
theorem putDv_in {key : Key} : ∀ {ks : List Key} {cs l : List (T × V)}, ks.length = cs.length → (ow t = false ∨ ks.Nodup) → In K F R H ρ σ (cs ++ (t, v) :: l) →
    ∃ ds : List (T × V), ds.map (·.1) = putDv ks (cs.map (·.1)) key t ∧ ds.map (·.2) = putDv ks (cs.map (·.2)) key v ∧ In K F R H ρ σ (ds ++ l)
  | [], [], _, _, _, h => ⟨[], rfl, rfl, in_drop h⟩
  | [], _ :: _, _, e, _, _ => by cases e
  | _ :: _, [], _, e, _, _ => by cases e
  | y :: ks, c :: cs, l, e, hn, h => by
    have e' : ks.length = cs.length := by simpa using e
    by_cases hy : y = key
    · rcases hn with hn | hn
      · have h2 : In K F R H ρ σ (cs ++ (t, v) :: (t, v) :: l) := by
          refine in_perm ?_ (in_dup hn (in_perm (List.perm_middle (l₁ := cs)) (in_drop (t := c.1) (v := c.2) h)))
          exact (List.Perm.swap _ _ _).trans ((List.Perm.cons _ List.perm_middle.symm).trans List.perm_middle.symm)
        obtain ⟨ds, e1, e2, h3⟩ := putDv_in (key := key) (l := (t, v) :: l) e' (.inl hn) h2
        refine ⟨(t, v) :: ds, ?_, ?_, in_perm List.perm_middle h3⟩
        · show t :: ds.map (·.1) = (if y = key then t else c.1) :: putDv ks (cs.map (·.1)) key t
          rw [if_pos hy, e1]
        · show v :: ds.map (·.2) = (if y = key then v else c.2) :: putDv ks (cs.map (·.2)) key v
          rw [if_pos hy, e2]
      · obtain ⟨n1, n2⟩ := List.nodup_cons.mp hn
        have ne : ∀ z ∈ ks, z ≠ key := fun z hz e => n1 (by rw [hy, ← e]; exact hz)
        refine ⟨(t, v) :: cs, ?_, ?_, in_perm List.perm_middle (in_drop (t := c.1) (v := c.2) h)⟩
        · show t :: cs.map (·.1) = (if y = key then t else c.1) :: putDv ks (cs.map (·.1)) key t
          rw [if_pos hy, putDv_id (by simpa using e') ne]
        · show v :: cs.map (·.2) = (if y = key then v else c.2) :: putDv ks (cs.map (·.2)) key v
          rw [if_pos hy, putDv_id (by simpa using e') ne]
    · have hn' : ow t = false ∨ ks.Nodup := hn.imp id fun z => (List.nodup_cons.mp z).2
      have h2 : In K F R H ρ σ (cs ++ (t, v) :: (c :: l)) := by
        refine in_perm ?_ h
        refine (List.Perm.cons _ List.perm_middle).trans ?_
        exact (List.Perm.swap _ _ _).trans ((List.Perm.cons _ List.perm_middle.symm).trans List.perm_middle.symm)
      obtain ⟨ds, e1, e2, h3⟩ := putDv_in (key := key) (l := c :: l) e' hn' h2
      refine ⟨c :: ds, ?_, ?_, in_perm List.perm_middle h3⟩
      · show c.1 :: ds.map (·.1) = (if y = key then t else c.1) :: putDv ks (cs.map (·.1)) key t
        rw [if_neg hy, e1]
      · show c.2 :: ds.map (·.2) = (if y = key then v else c.2) :: putDv ks (cs.map (·.2)) key v
        rw [if_neg hy, e2]
theorem putD_in {key : Key} {ks : List Key} {cs : List (T × V)} (e : ks.length = cs.length) (hn : ow t = false ∨ ks.Nodup) (h : In K F R H ρ σ (cs ++ (t, v) :: l)) :
    ∃ ds : List (T × V), ds.map (·.1) = (putD ks (cs.map (·.1)) key t).2 ∧ ds.map (·.2) = (putD ks (cs.map (·.2)) key v).2 ∧ (putD ks (cs.map (·.1)) key t).1 = (putD ks (cs.map (·.2)) key v).1 ∧ In K F R H ρ σ (ds ++ l) := by
  unfold putD
  by_cases a : (ks.any fun y => decide (y = key)) = true
  · rw [if_pos a, if_pos a]
    obtain ⟨ds, e1, e2, h2⟩ := putDv_in (key := key) e hn h
    exact ⟨ds, e1, e2, rfl, h2⟩
  · rw [if_neg a, if_neg a]
    exact ⟨cs ++ [(t, v)], by rw [List.map_append] <;> rfl, by rw [List.map_append] <;> rfl, rfl, by simpa using h⟩
theorem set_ok {ti : T} {vi : V} {Q : T → Prop} {Post : Hp → Prop} (hb : setT t ti te Q) (hi : ∀ key, toKey ti = some key → vi = kV key) (h : In K F R H ρ σ ((t, v) :: (te, ve) :: l))
    (q : ∀ t' H', Q t' → In K F R H' ρ σ ((t', v) :: l) → Post H') : rSet v vi ve H Post := by
  unfold setT at hb
  split at hb
  · rename_i ts n
    obtain ⟨j, hj, hb⟩ := hb
    have ei := hi (.inl n) rfl
    subst ei
    obtain ⟨a, cs, rfl, rfl, hp, h2⟩ := in_openL h
    rw [List.length_map] at hj
    refine .inl ⟨a, _, n, j, rfl, rfl, hp, by rw [List.length_map]; exact hj, ?_⟩
    have hlt : j < cs.length := (ixN_seq hj).2.1
    have h3 : In K F R H ρ σ ((cs[j].1, cs[j].2) :: (.cel (.lst (cs.map (·.2))), .ref a) :: (cs.set j (te, ve)) ++ l) := by
      refine in_perm ?_ h2
      refine List.Perm.trans ?_ (List.Perm.swap _ _ _)
      refine List.Perm.cons _ ?_
      refine ((perm_erase hlt).append_right _).trans (List.Perm.cons _ ?_)
      exact List.perm_middle.trans ((perm_set hlt).symm.append_right l)
    have h4 := in_wr (in_drop h3)
    rw [List.map_set, List.map_set] at h4
    exact q _ _ hb h4
  · rename_i ks ts
    obtain ⟨key, hk, hl, hn, hb⟩ := hb
    have ei := hi key hk
    subst ei
    obtain ⟨a, cs, w, rfl, rfl, c, hp, h2⟩ := in_open h
    obtain ⟨c1, rfl⟩ := c
    rw [List.length_map] at c1
    have c1' : ks.length = (cs.map (·.2)).length := by simpa using c1
    obtain ⟨z1, z2⟩ := putD_zip (k := key) (t := ve) c1'
    refine .inr ⟨a, _, rfl, .inl ⟨_, key, hp, rfl, ?_, rfl⟩, ?_⟩
    · rw [List.length_zip]; omega
    · rw [z1]
      have h3 := in_perm (List.Perm.cons _ (List.perm_middle (l₁ := cs))) h2
      have h4 := in_write (.dK ((putD ks (cs.map (·.2)) key ve).1.zip (putD ks (cs.map (·.2)) key ve).2)) h3
      obtain ⟨ds, e1, e2, e3, h5⟩ := putD_in (key := key) (l := (T.cel _, V.ref a) :: l) c1 hn (in_perm ((List.Perm.swap _ _ _).trans ((List.Perm.cons _ List.perm_middle.symm).trans List.perm_middle.symm)) h4)
      have h6 := in_close (k := .dct (putD ks (cs.map (·.1)) key te).1) (cs := ds) (by
        refine ⟨?_, ?_⟩
        · rw [e2, e3]; exact z2
        · rw [e2, e3]) (in_perm List.perm_middle h5)
      rw [e1] at h6
      exact q _ _ hb h6
  · exact hb.elim
theorem putFd_zip {f : Str} {t : V} : ∀ {fs : List Str} {xs : List V}, fs.length = xs.length → putF f t (fs.zip xs) = (putFd f t fs xs).1.zip (putFd f t fs xs).2 ∧ (putFd f t fs xs).1.length = (putFd f t fs xs).2.length
  | [], [], _ => ⟨rfl, rfl⟩
  | [], _ :: _, h => by cases h
  | _ :: _, [], h => by cases h
  | y :: ks, x :: xs, h => by
    have h' : ks.length = xs.length := by simpa using h
    obtain ⟨e1, e2⟩ := putFd_zip (f := f) (t := t) h'
    unfold putFd
    rw [List.zip_cons_cons]
    show (if y = f then (y, t) :: ks.zip xs else (y, x) :: putF f t (ks.zip xs)) = _ ∧ _
    by_cases e : y = f
    · rw [if_pos e, if_pos e]
      exact ⟨rfl, by simp [h']⟩
    · rw [if_neg e, if_neg e]
      exact ⟨by rw [e1] <;> rfl, by simp [e2]⟩
theorem putFd_in {f : Str} : ∀ {fs : List Str} {cs l : List (T × V)}, fs.length = cs.length → In K F R H ρ σ (cs ++ (t, v) :: l) →
    ∃ ds : List (T × V), ds.map (·.1) = (putFd f t fs (cs.map (·.1))).2 ∧ ds.map (·.2) = (putFd f v fs (cs.map (·.2))).2 ∧ (putFd f t fs (cs.map (·.1))).1 = (putFd f v fs (cs.map (·.2))).1 ∧ In K F R H ρ σ (ds ++ l)
  | [], [], _, _, h => ⟨[(t, v)], rfl, rfl, rfl, h⟩
  | [], _ :: _, _, e, _ => by cases e
  | _ :: _, [], _, e, _ => by cases e
  | y :: ks, c :: cs, l, e, h => by
    have e' : ks.length = cs.length := by simpa using e
    unfold putFd
    rw [List.map_cons, List.map_cons]
    dsimp only
    by_cases hy : y = f
    · rw [if_pos hy, if_pos hy]
      exact ⟨(t, v) :: cs, rfl, rfl, rfl, in_perm List.perm_middle (in_drop (t := c.1) (v := c.2) h)⟩
    · rw [if_neg hy, if_neg hy]
      have h2 : In K F R H ρ σ (cs ++ (t, v) :: (c :: l)) := by
        refine in_perm ?_ h
        refine (List.Perm.cons _ List.perm_middle).trans ?_
        exact (List.Perm.swap _ _ _).trans ((List.Perm.cons _ List.perm_middle.symm).trans List.perm_middle.symm)
      obtain ⟨ds, e1, e2, e3, h3⟩ := putFd_in (f := f) (l := c :: l) e' h2
      exact ⟨c :: ds, by rw [List.map_cons, e1], by rw [List.map_cons, e2], by rw [e3], in_perm List.perm_middle h3⟩
theorem setF_ok {f : Str} {Q : T → Prop} {Post : Hp → Prop} (kn : Kn p K) (hb : setFT p f te t Q) (h : In K F R H ρ σ ((t, v) :: (te, ve) :: l)) (q : ∀ t' H', Q t' → In K F R H' ρ σ ((t', v) :: l) → Post H') :
    ∃ a C dx fs, v = .ref a ∧ H a = some (.ins C dx fs) ∧ Cls K C ∧ NoAttr K C f ∧ fs.length < 1000 ∧ Post (upd H a (.ins C dx (putF f ve fs))) := by
  unfold setFT at hb
  split at hb
  · rename_i C fs ts
    obtain ⟨ho, hl, hb⟩ := hb
    obtain ⟨k1, k2⟩ := okAt_ok kn ho
    obtain ⟨a, cs, w, rfl, rfl, c, hp, h2⟩ := in_open h
    obtain ⟨c1, dx, rfl⟩ := c
    have c1' : fs.length = cs.length := by simpa using c1
    obtain ⟨z1, z2⟩ := putFd_zip (f := f) (t := ve) c1
    refine ⟨a, _, dx, _, rfl, hp, k1, k2, ?_, ?_⟩
    · rw [List.length_zip]; omega
    · rw [z1]
      have h3 := in_perm (List.Perm.cons _ (List.perm_middle (l₁ := cs))) h2
      have h4 := in_write (.ins (He.ga K C) dx ((putFd f ve fs (cs.map (·.2))).1.zip (putFd f ve fs (cs.map (·.2))).2)) h3
      obtain ⟨ds, e1, e2, e3, h5⟩ := putFd_in (f := f) (l := (T.cel _, V.ref a) :: l) c1' (in_perm ((List.Perm.swap _ _ _).trans ((List.Perm.cons _ List.perm_middle.symm).trans List.perm_middle.symm)) h4)
      have h6 := in_close (k := .obj C (putFd f te fs (cs.map (·.1))).1) (cs := ds) (by
        refine ⟨?_, dx, ?_⟩
        · rw [e2, e3]; exact z2
        · rw [e2, e3]) (in_perm List.perm_middle h5)
      rw [e1] at h6
      exact q _ _ hb h6
  · exact hb.elim
end
end PL
set_option Elab.async false
set_option linter.all false
set_option maxRecDepth 100000
set_option maxHeartbeats 4000000
namespace PL
open PySem PySem.Spec PyProof.Rows L2
section
variable {p : Px} {K : PySem.W.Frag} {F : Addr → Option HO} {R : Ow} {H : Hp} {ρ : List T} {σ : L2.St} {l l' pk pk' : List (T × V)} {t u k ta tb te : T} {v tv kv va vb ve : V}
/-! ### arguments -/
def ArgOk (σ : L2.St) : List Ag → List V → Prop
  | [], [] => True
  | .v i :: as, v :: vs => σ[i]? = some (some v) ∧ ArgOk σ as vs
  | .t _ :: as, _ :: vs => ArgOk σ as vs
  | _, _ => False
def tmps : List Ag → List V → List (T × V)
  | .t t :: as, v :: vs => (t, v) :: tmps as vs
  | .v _ :: as, _ :: vs => tmps as vs
  | _, _ => []
theorem ArgOk.len : ∀ {as : List Ag} {vs : List V}, ArgOk σ as vs → as.length = vs.length
  | [], [], _ => rfl
  | [], _ :: _, h => h.elim
  | .v _ :: _, [], h => h.elim
  | .t _ :: _, [], h => h.elim
  | .v i :: as, v :: vs, h => by simp [h.2.len]
  | .t _ :: as, v :: vs, h => by simp [(show ArgOk σ as vs from h).len]
theorem lend_ok : ∀ {as : List Ag} {vs : List V} {ρ ρ2 : Ev} {ts : List T} {l : List (T × V)}, ArgOk σ as vs → lend as ρ = some (ts, ρ2) → In K F R H ρ σ (tmps as vs ++ l) → In K F R H ρ2 σ (ts.zip vs ++ l) ∧ ts.length = vs.length
  | [], [], ρ, ρ2, ts, l, _, e, h => by cases e; exact ⟨h, rfl⟩
  | [], _ :: _, _, _, _, _, h, _, _ => h.elim
  | .v _ :: _, [], _, _, _, _, h, _, _ => h.elim
  | .t _ :: _, [], _, _, _, _, h, _, _ => h.elim
  | .t t :: as, v :: vs, ρ, ρ2, ts, l, ha, e, h => by
    unfold lend at e
    obtain ⟨⟨ts', ρ'⟩, e1, e2⟩ := Option.map_eq_some_iff.mp e
    cases e2
    obtain ⟨h2, hl⟩ := lend_ok (as := as) (vs := vs) (l := (t, v) :: l) ha e1 (in_perm List.perm_middle.symm h)
    exact ⟨in_perm List.perm_middle h2, by simp [hl]⟩
  | .v i :: as, v :: vs, ρ, ρ2, ts, l, ha, e, h => by
    unfold lend at e
    obtain ⟨t, e0, e⟩ := Option.bind_eq_some_iff.mp e
    split at e
    · cases e
    · rename_i hu
      have hu : isUn t = false := by simpa using hu
      obtain ⟨⟨ts', ρ'⟩, e1, e2⟩ := Option.map_eq_some_iff.mp e
      cases e2
      by_cases ho : ow t = true
      · rw [if_pos ho] at e1
        obtain ⟨v', hv, h1⟩ := in_take e0 hu h
        rw [ha.1] at hv
        cases hv
        obtain ⟨h2, hl⟩ := lend_ok (as := as) (vs := vs) (l := (t, v) :: l) ha.2 e1 (in_perm List.perm_middle.symm h1)
        exact ⟨in_perm List.perm_middle h2, by simp [hl]⟩
      · rw [if_neg ho] at e1
        obtain ⟨v', hv, h1⟩ := in_get e0 hu (by simpa using ho) h
        rw [ha.1] at hv
        cases hv
        obtain ⟨h2, hl⟩ := lend_ok (as := as) (vs := vs) (l := (t, v) :: l) ha.2 e1 (in_perm List.perm_middle.symm h1)
        exact ⟨in_perm List.perm_middle h2, by simp [hl]⟩
theorem back_ok : ∀ {as : List Ag} {vs : List V} {ρ : Ev} {ts os : List T} {l : List (T × V)}, ArgOk σ as vs → ts.length = vs.length → os.length = vs.length → In K F R H ρ σ (os.zip vs ++ l) → In K F R H (back as ts os ρ) σ l
  | [], [], ρ, ts, os, l, _, h1, h2, h => by
    have e1 : ts = [] := List.length_eq_zero_iff.mp h1
    have e2 : os = [] := List.length_eq_zero_iff.mp h2
    subst e1 e2
    exact h
  | [], _ :: _, _, _, _, _, h, _, _, _ => h.elim
  | .v _ :: _, [], _, _, _, _, h, _, _, _ => h.elim
  | .t _ :: _, [], _, _, _, _, h, _, _, _ => h.elim
  | .t t :: as, v :: vs, ρ, [], _, l, ha, h1, h2, h => by cases h1
  | .t t :: as, v :: vs, ρ, _ :: _, [], l, ha, h1, h2, h => by cases h2
  | .t t :: as, v :: vs, ρ, t0 :: ts, o :: os, l, ha, h1, h2, h => back_ok (as := as) ha (by simpa using h1) (by simpa using h2) (in_drop h)
  | .v _ :: as, v :: vs, ρ, [], _, l, ha, h1, h2, h => by cases h1
  | .v _ :: as, v :: vs, ρ, _ :: _, [], l, ha, h1, h2, h => by cases h2
  | .v i :: as, v :: vs, ρ, t0 :: ts, o :: os, l, ha, h1, h2, h => by
    unfold back
    refine back_ok (as := as) ha.2 (by simpa using h1) (by simpa using h2) ?_
    by_cases ho : ow t0 = true
    · rw [if_pos ho]
      exact in_put' ha.1 h
    · rw [if_neg ho]
      exact in_drop h
/-! ### targets -/
mutual
theorem bind_ok : ∀ {g : Tg} {t : T} {v : V} {ρ : Ev} {σ : L2.St} {l : List (T × V)} {Q : Ev → Prop} {Post : L2.St → Hp → Prop} {P : L2.St → Prop}, bindT g t ρ Q → In K F R H ρ σ ((t, v) :: l) →
    (∀ σ i u, i ∈ tgSl g → P σ → P (σ.set i u)) → P σ → (∀ ρ' σ', Q ρ' → P σ' → In K F R H ρ' σ' l → Post σ' H) → tTg K g v σ H Post
  | .one i, t, v, ρ, σ, l, Q, Post, P, hb, h, hP, h0, q => q _ _ hb (hP _ _ _ (by simp [tgSl]) h0) (in_put i h)
  | .tup gs, t, v, ρ, σ, l, Q, Post, P, hb, h, hP, h0, q => by
    unfold bindT at hb
    cases t with
    | tup ts =>
      obtain ⟨hl, hb⟩ := hb
      obtain ⟨a, cs, rfl, rfl, hp, h2⟩ := in_openT h
      rw [List.length_map] at hl
      exact ⟨a, _, rfl, sqt_of hp, by rw [List.length_map]; exact hl, binds_ok hb hl h2 hP h0 q⟩
    | un => exact hb.elim
    | lf _ => exact hb.elim
    | cls _ => exact hb.elim
    | scr _ => exact hb.elim
    | cel _ => exact hb.elim
    | nd _ _ _ => exact hb.elim
theorem binds_ok : ∀ {gs : List Tg} {cs : List (T × V)} {ρ : Ev} {σ : L2.St} {l : List (T × V)} {Q : Ev → Prop} {Post : L2.St → Hp → Prop} {P : L2.St → Prop}, bindTs gs (cs.map (·.1)) ρ Q → cs.length = gs.length → In K F R H ρ σ (cs ++ l) →
    (∀ σ i u, i ∈ tgSl.tgSls gs → P σ → P (σ.set i u)) → P σ → (∀ ρ' σ', Q ρ' → P σ' → In K F R H ρ' σ' l → Post σ' H) → tTg.tTgs K gs (cs.map (·.2)) σ H Post
  | [], [], ρ, σ, l, Q, Post, P, hb, _, h, hP, h0, q => ⟨rfl, q _ _ hb h0 h⟩
  | [], _ :: _, _, _, _, _, _, _, _, e, _, _, _, _ => by cases e
  | _ :: _, [], _, _, _, _, _, _, _, e, _, _, _, _ => by cases e
  | g :: gs, (t, v) :: cs, ρ, σ, l, Q, Post, P, hb, hl, h, hP, h0, q => by
    refine ⟨v, cs.map (·.2), rfl, bind_ok (l := cs ++ l) (P := P) hb h (fun σ i u hi => hP σ i u (List.mem_append_left _ hi)) h0 fun ρ' σ' hq hp h2 => ?_⟩
    exact binds_ok hq (by simpa using hl) h2 (fun σ i u hi => hP σ i u (List.mem_append_right _ hi)) hp q
end
/-! ### what is walked -/
/-- J yields its, as long as srcs stand -/
def Src (K : PySem.W.Frag) (F : Addr → Option HO) (R : Ow) (its : List T) (J : It) (srcs : List (T × V)) : Prop :=
  ∀ H ρ σ l i, In K F R H ρ σ (srcs ++ l) → (i < its.length → J.go i H ∧ ∀ t x H', its[i]? = some t → J.yld i H x H' → In K F R H' ρ σ ((t, x) :: srcs ++ l)) ∧ (its.length ≤ i → J.stop i H)
theorem sql_lst {a : Addr} {xs ys : List V} (K : PySem.W.Frag) (h : H a = some (.lst xs)) : SqL K H a xs := sql_of h
theorem in_at {cs : List (T × V)} {i : Nat} {x : V} (ho : ows (cs.map (·.1)) = false) (ht : (cs.map (·.1))[i]? = some t) (hx : (cs.map (·.2))[i]? = some x) (h : InP K F R H ρ σ l (cs ++ pk)) : In K F R H ρ σ ((t, x) :: l) := by
  rw [List.getElem?_map] at ht hx
  cases e : cs[i]? with
  | none => rw [e] at ht; cases ht
  | some c =>
    rw [e] at ht hx
    cases ht
    cases hx
    have m := List.mem_of_getElem? e
    exact inP_in (inP_up (ows_mem ho _ (List.mem_map_of_mem m)) (inP_mem (List.mem_append_left _ m) h))
theorem src_lst {o : Bool} {ts : List T} {a : Addr} (ho : ows ts = false) : Src K F R ts (Itl K a) [(.nd .lst o ts, .ref a)] := by
  intro H ρ σ l i h
  obtain ⟨a', cs, w, e1, e2, c, r, h2⟩ := inP_nd (inP_keep (inP_of h))
  cases e1
  subst e2
  have hp := Rko.lst c r
  refine ⟨fun hi => ?_, fun hi => ⟨_, sql_of hp, by simpa using hi⟩⟩
  have hi' : i < cs.length := by simpa using hi
  refine ⟨⟨_, cs[i].2, sql_of hp, by rw [List.getElem?_map, List.getElem?_eq_getElem hi'] <;> rfl⟩, fun t x H' ht hy => ?_⟩
  obtain ⟨rfl, hy⟩ := hy
  exact in_at ho ht (hy _ (sql_of hp)) h2
theorem src_tup {ts : List T} {a : Addr} (ho : ows ts = false) : Src K F R ts (Itt K a) [(.tup ts, .ref a)] := by
  intro H ρ σ l i h
  obtain ⟨a', cs, e1, e2, hp, h2⟩ := inP_tup (inP_keep (inP_of h))
  cases e1
  subst e2
  refine ⟨fun hi => ?_, fun hi => ⟨_, sqt_of hp, by simpa using hi⟩⟩
  have hi' : i < cs.length := by simpa using hi
  refine ⟨⟨_, cs[i].2, sqt_of hp, by rw [List.getElem?_map, List.getElem?_eq_getElem hi'] <;> rfl⟩, fun t x H' ht hy => ?_⟩
  obtain ⟨rfl, hy⟩ := hy
  exact in_at ho ht (hy _ (sqt_of hp)) h2
theorem src_str {z : Str} : Src K F R (z.cps.toList.map fun c => .s ⟨#[c]⟩) (Its z) [(.lf (.str z), .str z)] := by
  intro H ρ σ l i h
  refine ⟨fun hi => ?_, fun hi => by
    show z.cps.size ≤ i
    simpa using hi⟩
  have hi' : i < z.cps.size := by simpa using hi
  refine ⟨hi', fun t x H' ht hy => ?_⟩
  obtain ⟨rfl, c, hc, rfl⟩ := hy
  rw [List.getElem?_map, Array.getElem?_toList, hc] at ht
  cases ht
  exact in_lf _ h
theorem src_rng {lo : Int} {n : Nat} {srcs : List (T × V)} : Src K F R ((List.range n).map fun (k : Nat) => T.i (lo + (k : Int))) (Itr lo n) srcs := by
  intro H ρ σ l i h
  refine ⟨fun hi => ?_, fun hi => by
    show n ≤ i
    simpa using hi⟩
  have hi' : i < n := by simpa using hi
  refine ⟨hi', fun t x H' ht hy => ?_⟩
  obtain ⟨rfl, rfl⟩ := hy
  rw [List.getElem?_map, List.getElem?_range hi'] at ht
  cases ht
  exact in_lf _ h
theorem enumT_get : ∀ {ts : List T} {k i : Nat}, (enumT k ts)[i]? = (ts[i]?).map fun t => .tup [.i ((k + i : Nat) : Int), t]
  | [], k, i => by simp [enumT]
  | t :: ts, k, 0 => rfl
  | t :: ts, k, i + 1 => by
    show (enumT (k + 1) ts)[i]? = (ts[i]?).map _
    rw [enumT_get, show k + 1 + i = k + (i + 1) from by omega]
theorem enumT_len : ∀ {ts : List T} {k : Nat}, (enumT k ts).length = ts.length
  | [], _ => rfl
  | t :: ts, k => by
    show (enumT (k + 1) ts).length + 1 = _
    rw [enumT_len] <;> rfl
theorem enum_ows : ∀ {ts : List T} {k : Nat}, ows (enumT k ts) = false → ows ts = false
  | [], _, _ => rfl
  | t :: ts, k, h => by
    obtain ⟨h1, h2⟩ := Bool.or_eq_false_iff.mp (show (ow (.tup [.i (k : Int), t]) || ows (enumT (k + 1) ts)) = false from h)
    have h3 : ow t = false := by
      have : (false || (ow t || false)) = false := h1
      simpa using this
    show (ow t || ows ts) = false
    rw [h3, enum_ows h2] <;> rfl
theorem src_enum {o : Bool} {ts : List T} {a : Addr} (ho : ows (enumT 0 ts) = false) : Src K F R (enumT 0 ts) (Ite K a) [(.nd .lst o ts, .ref a)] := by
  intro H ρ σ l i h
  obtain ⟨a', cs, w, e1, e2, c, r, h2⟩ := inP_nd (inP_keep (inP_of h))
  cases e1
  subst e2
  have hp := Rko.lst c r
  rw [enumT_len]
  refine ⟨fun hi => ?_, fun hi => ⟨_, sql_of hp, by simpa using hi⟩⟩
  have hi' : i < cs.length := by simpa using hi
  refine ⟨⟨_, cs[i].2, sql_of hp, by rw [List.getElem?_map, List.getElem?_eq_getElem hi'] <;> rfl⟩, fun t x H' ht hy => ?_⟩
  obtain ⟨b, y, rfl, hb, rfl, hy⟩ := hy
  rw [enumT_get, List.getElem?_map, List.getElem?_eq_getElem hi'] at ht
  cases ht
  have hx := hy _ (sql_of hp)
  have h3 := in_at (enum_ows ho) (by rw [List.getElem?_map, List.getElem?_eq_getElem hi'] <;> rfl) hx h2
  have h4 := in_newT (cs := [(.i ((0 + i : Nat) : Int), .int ((0 + i : Nat) : Int)), (cs[i].1, y)]) hb (in_lf _ h3)
  have e : 0 + i = i := by omega
  rw [e] at h4 ⊢
  exact h4
theorem zipT_get : ∀ {ts us : List T} {i : Nat}, (zipT ts us)[i]? = (ts[i]?).bind fun a => (us[i]?).map fun b => .tup [a, b]
  | [], us, i => by simp [zipT]
  | t :: ts, [], i => by
    cases h : (t :: ts)[i]? <;> simp [zipT]
  | t :: ts, u :: us, 0 => rfl
  | t :: ts, u :: us, i + 1 => by
    show (zipT ts us)[i]? = _
    rw [zipT_get] <;> rfl
theorem zipT_len : ∀ {ts us : List T}, (zipT ts us).length = min ts.length us.length
  | [], us => by simp [zipT]
  | t :: ts, [] => by simp [zipT]
  | t :: ts, u :: us => by
    show (zipT ts us).length + 1 = _
    rw [zipT_len, List.length_cons, List.length_cons]
    omega
theorem zip_ow {ts us : List T} {i : Nat} {a b : T} (h : ows (zipT ts us) = false) (ha : ts[i]? = some a) (hb : us[i]? = some b) : ow a = false ∧ ow b = false := by
  have hz : (zipT ts us)[i]? = some (.tup [a, b]) := by rw [zipT_get, ha, hb] <;> rfl
  have := ows_mem h _ (List.mem_of_getElem? hz)
  have : (ow a || (ow b || false)) = false := this
  simpa using this
theorem src_zipL {o o2 : Bool} {ts us : List T} {a b : Addr} (ho : ows (zipT ts us) = false) : Src K F R (zipT ts us) (Itz K a b) [(.nd .lst o ts, .ref a), (.nd .lst o2 us, .ref b)] := by
  intro H ρ σ l i h
  obtain ⟨a', cs, w, e1, e2, c, r, h2⟩ := inP_nd (inP_keep (inP_of h))
  obtain ⟨b', ds, w', e3, e4, c', r', h3⟩ := inP_nd (inP_keep (inP_of (in_perm (List.Perm.swap _ _ _) h)))
  cases e1
  cases e3
  subst e2 e4
  have hp := Rko.lst c r
  have hp' := Rko.lst c' r'
  rw [zipT_len]
  refine ⟨fun hi => ?_, fun hi => ⟨_, _, sql_of hp, sql_of hp', by simp only [List.length_map] at hi ⊢; omega⟩⟩
  have hi1 : i < cs.length := by simp only [List.length_map] at hi; omega
  have hi2 : i < ds.length := by simp only [List.length_map] at hi; omega
  refine ⟨⟨_, _, cs[i].2, ds[i].2, sql_of hp, sql_of hp', by rw [List.getElem?_map, List.getElem?_eq_getElem hi1] <;> rfl, by rw [List.getElem?_map, List.getElem?_eq_getElem hi2] <;> rfl⟩, fun t x H' ht hy => ?_⟩
  obtain ⟨q, x1, y1, rfl, hq, rfl, hx, hy⟩ := hy
  have hx := hx _ (sql_of hp)
  have hy := hy _ (sql_of hp')
  have et : (cs.map (·.1))[i]? = some cs[i].1 := by rw [List.getElem?_map, List.getElem?_eq_getElem hi1] <;> rfl
  have eu : (ds.map (·.1))[i]? = some ds[i].1 := by rw [List.getElem?_map, List.getElem?_eq_getElem hi2] <;> rfl
  obtain ⟨o1, o3⟩ := zip_ow ho et eu
  rw [zipT_get, et, eu] at ht
  cases ht
  rw [List.getElem?_map, List.getElem?_eq_getElem hi1] at hx
  rw [List.getElem?_map, List.getElem?_eq_getElem hi2] at hy
  cases hx
  cases hy
  have m1 : cs[i] ∈ cs := List.getElem_mem hi1
  have m2 : ds[i] ∈ ds := List.getElem_mem hi2
  have h4 := inP_in (inP_up (t := cs[i].1) (v := cs[i].2) (pk := []) o1 (inP_sub (fun r hr => by
    have := List.mem_singleton.mp hr
    subst this
    exact List.mem_append_left _ m1) h2))
  have h5 : In K F R H ρ σ ((ds[i].1, ds[i].2) :: (cs[i].1, cs[i].2) :: [(.nd .lst o (cs.map (·.1)), .ref a), (.nd .lst o2 (ds.map (·.1)), .ref b)] ++ l) := by
    have hb2 := inP_keep (inP_of (in_perm (l' := (.nd .lst o2 (ds.map (·.1)), .ref b) :: (cs[i].1, cs[i].2) :: (.nd .lst o (cs.map (·.1)), .ref a) :: l) ((List.Perm.cons _ (List.Perm.swap _ _ _)).trans (List.Perm.swap _ _ _)) h4))
    obtain ⟨b'', es, w'', e5, e6, c'', r'', h6⟩ := inP_nd hb2
    cases e5
    have hp'' := Rko.lst c'' r''
    rw [hp'] at hp''
    have e7 : es.map (·.2) = ds.map (·.2) := by
      injection hp'' with q
      injection q with q
      exact q.symm
    have le : es.length = ds.length := by have := congrArg List.length e6; simpa using this
    have hi3 : i < es.length := by omega
    have f1 : es[i].1 = ds[i].1 := by
      have := congrArg (·[i]?) e6
      simpa [List.getElem?_eq_getElem hi3, List.getElem?_eq_getElem hi2] using this
    have f2 : es[i].2 = ds[i].2 := by
      have := congrArg (·[i]?) e7
      simpa [List.getElem?_eq_getElem hi3, List.getElem?_eq_getElem hi2] using this
    have h7 := inP_in (inP_up (t := ds[i].1) (v := ds[i].2) (pk := []) o3 (inP_sub (fun r hr => by
      have := List.mem_singleton.mp hr
      subst this
      rw [← f1, ← f2]
      exact List.mem_append_left _ (List.getElem_mem hi3)) h6))
    refine in_perm (List.Perm.cons _ ?_) h7
    exact (List.Perm.swap _ _ _).trans (List.Perm.cons _ (List.Perm.swap _ _ _))
  exact in_newT (cs := [(cs[i].1, cs[i].2), (ds[i].1, ds[i].2)]) hq (in_perm (List.Perm.swap _ _ _) h5)
theorem src_zipU {ts us : List T} {a b : Addr} (ho : ows (zipT ts us) = false) : Src K F R (zipT ts us) (RZ.ItzT K a b) [(.tup ts, .ref a), (.tup us, .ref b)] := by
  intro H ρ σ l i h
  obtain ⟨a', cs, e1, e2, hp, h2⟩ := inP_tup (inP_keep (inP_of h))
  obtain ⟨b', ds, e3, e4, hp', h3⟩ := inP_tup (inP_keep (inP_of (in_perm (List.Perm.swap _ _ _) h)))
  cases e1
  cases e3
  subst e2 e4
  rw [zipT_len]
  refine ⟨fun hi => ?_, fun hi => ⟨_, _, sqt_of hp, sqt_of hp', by simp only [List.length_map] at hi ⊢; omega⟩⟩
  have hi1 : i < cs.length := by simp only [List.length_map] at hi; omega
  have hi2 : i < ds.length := by simp only [List.length_map] at hi; omega
  refine ⟨⟨_, _, cs[i].2, ds[i].2, sqt_of hp, sqt_of hp', by rw [List.getElem?_map, List.getElem?_eq_getElem hi1] <;> rfl, by rw [List.getElem?_map, List.getElem?_eq_getElem hi2] <;> rfl⟩, fun t x H' ht hy => ?_⟩
  obtain ⟨q, x1, y1, rfl, hq, rfl, hx, hy⟩ := hy
  have hx := hx _ (sqt_of hp)
  have hy := hy _ (sqt_of hp')
  have et : (cs.map (·.1))[i]? = some cs[i].1 := by rw [List.getElem?_map, List.getElem?_eq_getElem hi1] <;> rfl
  have eu : (ds.map (·.1))[i]? = some ds[i].1 := by rw [List.getElem?_map, List.getElem?_eq_getElem hi2] <;> rfl
  obtain ⟨o1, o3⟩ := zip_ow ho et eu
  rw [zipT_get, et, eu] at ht
  cases ht
  rw [List.getElem?_map, List.getElem?_eq_getElem hi1] at hx
  rw [List.getElem?_map, List.getElem?_eq_getElem hi2] at hy
  cases hx
  cases hy
  have m1 : cs[i] ∈ cs := List.getElem_mem hi1
  have m2 : ds[i] ∈ ds := List.getElem_mem hi2
  have h4 := inP_in (inP_up (t := cs[i].1) (v := cs[i].2) (pk := []) o1 (inP_sub (fun r hr => by
    have := List.mem_singleton.mp hr
    subst this
    exact List.mem_append_left _ m1) h2))
  have h5 : In K F R H ρ σ ((ds[i].1, ds[i].2) :: (cs[i].1, cs[i].2) :: [(.tup (cs.map (·.1)), .ref a), (.tup (ds.map (·.1)), .ref b)] ++ l) := by
    have hb2 := inP_keep (inP_of (in_perm (l' := (.tup (ds.map (·.1)), .ref b) :: (cs[i].1, cs[i].2) :: (.tup (cs.map (·.1)), .ref a) :: l) ((List.Perm.cons _ (List.Perm.swap _ _ _)).trans (List.Perm.swap _ _ _)) h4))
    obtain ⟨b'', es, e5, e6, hp'', h6⟩ := inP_tup hb2
    cases e5
    rw [hp'] at hp''
    have e7 : es.map (·.2) = ds.map (·.2) := by
      injection hp'' with q
      injection q with q
      exact q.symm
    have le : es.length = ds.length := by have := congrArg List.length e6; simpa using this
    have hi3 : i < es.length := by omega
    have f1 : es[i].1 = ds[i].1 := by
      have := congrArg (·[i]?) e6
      simpa [List.getElem?_eq_getElem hi3, List.getElem?_eq_getElem hi2] using this
    have f2 : es[i].2 = ds[i].2 := by
      have := congrArg (·[i]?) e7
      simpa [List.getElem?_eq_getElem hi3, List.getElem?_eq_getElem hi2] using this
    have h7 := inP_in (inP_up (t := ds[i].1) (v := ds[i].2) (pk := []) o3 (inP_sub (fun r hr => by
      have := List.mem_singleton.mp hr
      subst this
      rw [← f1, ← f2]
      exact List.mem_append_left _ (List.getElem_mem hi3)) h6))
    refine in_perm (List.Perm.cons _ ?_) h7
    exact (List.Perm.swap _ _ _).trans (List.Perm.cons _ (List.Perm.swap _ _ _))
  exact in_newT (cs := [(cs[i].1, cs[i].2), (ds[i].1, ds[i].2)]) hq (in_perm (List.Perm.swap _ _ _) h5)
end
end PL
set_option Elab.async false
set_option linter.all false
set_option maxRecDepth 100000
set_option maxHeartbeats 4000000
namespace PL
open PySem PySem.Spec PyProof.Rows L2

def XOk2 (K : PySem.W.Frag) (F : Addr → Option HO) (R : Ow) (σ : L2.St) (l0 : List (T × V)) (X : CE0) (W : WX) : Prop :=
  ∀ c t ρ' H' dd l1, X c t ρ' → In K F R H' ρ' σ ((t, .ref dd) :: (l1 ++ l0)) → W (.ref (He.ga K c)) (some dd) σ H'
theorem xok_no {K : PySem.W.Frag} {F : Addr → Option HO} {R : Ow} {σ : L2.St} {l0 : List (T × V)} {W : WX} : XOk2 K F R σ l0 noX W := fun _ _ _ _ _ _ h => h.elim
section
variable (p : Px) (K : PySem.W.Frag) (Φs : Nat → Sp) (Φc : CF)
def SE (e : Ex) : Prop := ∀ (F : Addr → Option HO) (R : Ow) (σ : L2.St) (l0 : List (T × V)) (X : CE0) (W : WX), XOk2 K F R σ l0 X W → ∀ (m : Bool) (ρ : Ev) (l1 : List (T × V)) (H : Hp) (Q : T → Ev → Prop) (Post : V → Hp → Prop),
  (c2 p Φc e).1 X m ρ Q → In K F R H ρ σ (l1 ++ l0) → (∀ t v ρ' H', Q t ρ' → In K F R H' ρ' σ ((t, v) :: (l1 ++ l0)) → Post v H') → (t2 K Φs e W).1 σ H Post
def ST (e : Ex) : Prop := ∀ (F : Addr → Option HO) (R : Ow) (σ : L2.St) (l0 : List (T × V)) (X : CE0) (W : WX), XOk2 K F R σ l0 X W → ∀ (ρ : Ev) (l1 : List (T × V)) (H : Hp) (Q : Bool → Ev → Prop) (Post : Bool → Hp → Prop),
  (c2 p Φc e).2 X ρ Q → In K F R H ρ σ (l1 ++ l0) → (∀ k ρ' H', Q k ρ' → In K F R H' ρ' σ (l1 ++ l0) → Post k H') → (t2 K Φs e W).2 σ H Post
/-- the promises of the defs, over trees, are kept -/
def PhiOk : Prop := ∀ f ts Q X, Φc f ts Q X → ∀ (F : Addr → Option HO) (R : Ow) (H : Hp) (vs : List V) (Post : V → Hp → Prop) (E : XK), ts.length = vs.length → In K F R H [] [] (ts.zip vs) →
  (∀ H' r v os, Q r os → os.length = vs.length → In K F R H' [] [] ((r, v) :: os.zip vs) → Post v H') → (∀ H' c t dd, X c t → In K F R H' [] [] [(t, .ref dd)] → E (.ref (He.ga K c)) (some dd) H') → Φs f vs H Post E
end
section
variable {p : Px} {K : PySem.W.Frag} {Φs : Nat → Sp} {Φc : CF} {F : Addr → Option HO} {R : Ow} {H : Hp} {ρ : List T} {σ : L2.St} {l l' pk pk' : List (T × V)} {t u k ta tb te : T} {v tv kv va vb ve : V}
/-! ### wiping -/
theorem in_wp : ∀ {own : List Nat}, In K F R H ρ σ l → In K F R H (wipeE ρ own) (wipe σ own) l
  | [], h => h
  | _ :: _, h => in_un none (in_wp h)
theorem wipeE_len : ∀ {own : List Nat}, (wipeE ρ own).length = ρ.length
  | [] => rfl
  | _ :: _ => by
    show ((wipeE ρ _).set _ _).length = _
    rw [List.length_set, wipeE_len]
theorem wipe_at : ∀ {own : List Nat} {i : Nat} {t : T}, (wipeE ρ own)[i]? = some t → isUn t = false → (wipe σ own)[i]? = σ[i]?
  | [], _, _, _, _ => rfl
  | k :: own, i, t, h, hu => by
    have h : ((wipeE ρ own).set k .un)[i]? = some t := h
    show ((wipe σ own).set k none)[i]? = σ[i]?
    by_cases e : k = i
    · subst e
      rw [List.getElem?_set] at h
      split at h
      · split at h
        · cases h; cases hu
        · cases h
      · exact absurd rfl ‹¬ _›
    · rw [List.getElem?_set_ne e] at h ⊢
      exact wipe_at h hu
theorem in_unwipe {own : List Nat} (h : In K F R H (wipeE ρ own) (wipe σ own) l) : In K F R H (wipeE ρ own) σ l :=
  in_alt (by rw [wipe_length]) (fun i t ht hu => wipe_at ht hu) h
/-- the slots that a comprehension covers are kept aside -/
theorem sav_ok {ρ0 : Ev} : ∀ {own : List Nat} {l : List (T × V)}, In K F R H ρ0 σ l → ∃ sv : List (T × V), In K F R H ρ0 σ (sv ++ l) ∧ ∀ H' ρ' l', In K F R H' ρ' σ (sv ++ l') → In K F R H' (resE ρ0 own ρ') σ l'
  | [], l, h => ⟨[], h, fun _ _ _ h => h⟩
  | k :: own, l, h => by
    obtain ⟨sv, h1, q⟩ := sav_ok (own := own) h
    have hun : ∀ H' ρ' l', In K F R H' ρ' σ l' → In K F R H' (ρ'.set k .un) σ l' := fun H' ρ' l' h => by
      cases e : σ[k]? with
      | none =>
        have := in_un (i := k) none h
        have hl : σ.length ≤ k := List.getElem?_eq_none_iff.mp e
        rwa [List.set_eq_of_length_le hl] at this
      | some u =>
        have := in_un (i := k) u h
        rwa [set_same e] at this
    by_cases ho : ow (ρ0.getD k .un) = true
    · refine ⟨sv, h1, fun H' ρ' l' h2 => ?_⟩
      unfold resE
      rw [if_pos ho]
      exact hun _ _ _ (q _ _ _ h2)
    · by_cases hu : isUn (ρ0.getD k .un) = true
      · refine ⟨sv, h1, fun H' ρ' l' h2 => ?_⟩
        unfold resE
        rw [if_neg ho]
        have e : ρ0.getD k .un = .un := by
          revert hu
          cases ρ0.getD k .un <;> intro hu <;> first | rfl | cases hu
        rw [e]
        exact hun _ _ _ (q _ _ _ h2)
      · have hk : ρ0[k]? = some (ρ0.getD k .un) := by
          rw [List.getD_eq_getElem?_getD]
          cases e : ρ0[k]? with
          | none => rw [List.getD_eq_getElem?_getD, e] at hu; exact absurd rfl hu
          | some t => rfl
        obtain ⟨v, hv, h3⟩ := in_get hk (by simpa using hu) (by simpa using ho) h1
        refine ⟨(ρ0.getD k .un, v) :: sv, h3, fun H' ρ' l' h2 => ?_⟩
        unfold resE
        rw [if_neg ho]
        have h4 : In K F R H' ρ' σ (sv ++ (ρ0.getD k .un, v) :: l') := in_perm List.perm_middle.symm h2
        exact in_put' hv (q _ _ _ h4)
/-! ### sources -/
def srcR (K : PySem.W.Frag) (k : Sk) (vs : List V) (H : Hp) (R : It → Hp → Prop) : Prop := match k, vs with
  | .seq, [v] => (∃ a, v = .ref a ∧ (∃ xs, SqL K H a xs) ∧ R (Itl K a) H) ∨ (∃ a, v = .ref a ∧ (∃ xs, SqT K H a xs) ∧ R (Itt K a) H) ∨ (∃ x, v = .str x ∧ R (Its x) H) ∨ ∃ d o kvs, v = .ref d ∧ H d = some (.frz o (.dK kvs)) ∧ R (Itk d o kvs) H
  | .rng1, vs => ∃ j : Int, vs = [.int j] ∧ -(2 ^ 62) ≤ j ∧ j < 2 ^ 62 ∧ R (Itr 0 j.toNat) H
  | .rng2, vs => ∃ i j : Int, vs = [.int i, .int j] ∧ (-(2 ^ 62) ≤ i ∧ i < 2 ^ 62 ∧ -(2 ^ 62) ≤ j ∧ j < 2 ^ 62) ∧ R (Itr i (j - i).toNat) H
  | .enum, vs => ∃ a xs, vs = [.ref a] ∧ SqL K H a xs ∧ R (Ite K a) H
  | .zip, vs => ∃ a b xs ys, vs = [.ref a, .ref b] ∧ ((SqL K H a xs ∧ SqL K H b ys ∧ R (Itz K a b) H) ∨ (SqT K H a xs ∧ SqT K H b ys ∧ R (RZ.ItzT K a b) H))
  | _, _ => False
theorem tI_of {W : WX} {k : Sk} {ss : List Ex} {Rt : It → Hp → Prop} (hok : okSk k ss = true) (h : tAof (tL K Φs ss W) σ H fun vs H1 => srcR K k vs H1 Rt) : tI K k (tL K Φs ss W) σ H Rt := by
  obtain ⟨hl, hk⟩ := Bool.and_eq_true_iff.mp hok
  have hl := of_decide_eq_true hl
  have hk := of_decide_eq_true hk
  have e1 : ss.length = 1 → ∃ a, ss = [a] := fun h => by
    match ss, h with
    | [a], _ => exact ⟨a, rfl⟩
  have e2 : ss.length = 2 → ∃ a b, ss = [a, b] := fun h => by
    match ss, h with
    | [a, b], _ => exact ⟨a, b, rfl⟩
  cases k
  case seq => obtain ⟨a, rfl⟩ := e1 hl; exact h
  case rng1 => obtain ⟨a, rfl⟩ := e1 hl; exact h
  case rng2 => obtain ⟨a, b, rfl⟩ := e2 hl; exact h
  case enum => obtain ⟨a, rfl⟩ := e1 hl; exact h
  case zip => obtain ⟨a, b, rfl⟩ := e2 hl; exact h
  all_goals exact absurd rfl hk
/-- every source but a dict -/
theorem src_fin {k : Sk} {vs : List V} {ts its : List T} {Rt : It → Hp → Prop} (hi : itemsT k ts = some its) (ho : ows its = false) (hd : isDct1 ts = false) (hl : ts.length = vs.length) (h : In K F R H ρ σ (ts.zip vs ++ l))
    (q : ∀ J, Src K F R its J (ts.zip vs) → Rt J H) : srcR K k vs H Rt := by
  unfold itemsT at hi
  split at hi
  · match vs, hl with
    | [v], _ =>
      cases hi
      obtain ⟨a, cs, w, rfl, rfl, c, r, _⟩ := inP_nd (inP_keep (inP_of h))
      exact .inl ⟨a, rfl, ⟨_, sql_of (Rko.lst c r)⟩, q _ (src_lst ho)⟩
  · match vs, hl with
    | [v], _ =>
      cases hi
      obtain ⟨a, cs, rfl, rfl, r, _⟩ := inP_tup (inP_keep (inP_of h))
      exact .inr (.inl ⟨a, rfl, ⟨_, sqt_of r⟩, q _ (src_tup ho)⟩)
  · cases hd
  · match vs, hl with
    | [v], _ =>
      cases hi
      have e := in_fl h
      subst e
      exact .inr (.inr (.inl ⟨_, rfl, q _ src_str⟩))
  · split at hi
    · rename_i hb
      match vs, hl with
      | [v], _ =>
        cases hi
        have e := in_fl h
        subst e
        refine ⟨_, rfl, hb.1, hb.2, q _ ?_⟩
        have := src_rng (K := K) (F := F) (R := R) (lo := 0) (n := Int.toNat ‹Int›) (srcs := [(T.lf (.int ‹Int›), V.int ‹Int›)])
        simpa using this
    · cases hi
  · split at hi
    · rename_i hb
      match vs, hl with
      | [v, w], _ =>
        cases hi
        have e := in_fl h
        have e2 := in_fl (in_drop h)
        subst e e2
        exact ⟨_, _, rfl, hb, q _ src_rng⟩
    · cases hi
  · match vs, hl with
    | [v], _ =>
      cases hi
      obtain ⟨a, cs, w, rfl, rfl, c, r, _⟩ := inP_nd (inP_keep (inP_of h))
      exact ⟨a, _, rfl, sql_of (Rko.lst c r), q _ (src_enum ho)⟩
  · match vs, hl with
    | [v, w], _ =>
      cases hi
      obtain ⟨a, cs, w, rfl, rfl, c, r, _⟩ := inP_nd (inP_keep (inP_of h))
      obtain ⟨b, ds, w', rfl, rfl, c', r', _⟩ := inP_nd (inP_keep (inP_of (in_drop h)))
      exact ⟨a, b, _, _, rfl, .inl ⟨sql_of (Rko.lst c r), sql_of (Rko.lst c' r'), q _ (src_zipL ho)⟩⟩
  · match vs, hl with
    | [v, w], _ =>
      cases hi
      obtain ⟨a, cs, rfl, rfl, r, _⟩ := inP_tup (inP_keep (inP_of h))
      obtain ⟨b, ds, rfl, rfl, r', _⟩ := inP_tup (inP_keep (inP_of (in_drop h)))
      exact ⟨a, b, _, _, rfl, .inr ⟨sqt_of r, sqt_of r', q _ (src_zipU ho)⟩⟩
  · cases hi
end
end PL
set_option Elab.async false
set_option linter.all false
set_option maxRecDepth 100000
set_option maxHeartbeats 4000000
namespace PL
open PySem PySem.Spec PyProof.Rows L2
section
variable {p : Px} {K : PySem.W.Frag} {Φs : Nat → Sp} {Φc : CF} {F : Addr → Option HO} {R : Ow} {H : Hp} {ρ : List T} {σ : L2.St} {l l' pk pk' : List (T × V)} {t u k ta tb te : T} {v tv kv va vb ve : V}
/-! ### a dict's lock -/
def updF (F : Addr → Option HO) (d : Addr) (w : HO) : Addr → Option HO := fun x => if x = d then some w else F x
theorem in_setF {d : Addr} {w : HO} {ks : List Key} {cs : List T} (hw : H d = some w) (h : In K F R H ρ σ ((.nd (.dct ks) false cs, .ref d) :: l)) : In K (updF F d w) R H ρ σ ((.nd (.dct ks) false cs, .ref d) :: l) := by
  obtain ⟨O1, O2, a, b, c, dd, e, f⟩ := h
  refine ⟨O1, O2, a, fun x hx => ?_, fun x u hx => ?_, dd, e, f⟩
  · unfold updF; split
    · simp
    · exact b x hx
  · unfold updF at hx
    split at hx
    · rename_i e; subst e; cases hx
      obtain ⟨P1, P2, u, us, rfl, e2, f1, f2⟩ := f
      cases e2
      obtain ⟨p, vs, w, e3, hc, q⟩ := f1
      cases e3
      rcases q with ⟨q, _⟩ | ⟨_, hp, z, _⟩
      · cases q
      · exact ⟨hw, by simp only [pl] at z ⊢; omega⟩
    · exact c x u hx
/-- w' is w with its lock put on or off -/
def LkW (w w' : HO) : Prop := (∃ kvs o, w = .dK kvs ∧ w' = .frz o w) ∨ ∃ kvs o, w = .frz o (.dK kvs) ∧ w' = .dK kvs
theorem in_lk {d : Addr} {w w' : HO} (hF : F d = some w) (hl : LkW w w') (h : In K F R H ρ σ l) : In K (updF F d w') R (upd H d w') ρ σ l := by
  obtain ⟨O1, O2, a, b, c, dd, e, f⟩ := h
  obtain ⟨hd, z⟩ := c d w hF
  have mv : Mv H (pl R (pl O1 O2)) (upd H d w') (pl R (pl O1 O2)) := ⟨fun x w2 hx hz => by
    refine ⟨hz, ?_⟩
    by_cases q : x = d
    · subst q
      rw [hd] at hx
      cases hx
      rcases hl with ⟨kvs, o, rfl, rfl⟩ | ⟨kvs, o, rfl, rfl⟩
      · exact .inr (.inl ⟨kvs, o, rfl, upd_same⟩)
      · exact .inr (.inr ⟨kvs, o, rfl, upd_same⟩)
    · exact .inl (by rw [upd_ne q]; exact hx)⟩
  refine ⟨O1, O2, a, fun x hx => ?_, fun x u hx => ?_, fun x hx => ?_, reps_mv mv (fun x hx => upd_ne fun q => ?_) e, reps_mv mv (fun x hx => upd_ne fun q => ?_) f⟩
  · unfold updF; split
    · simp
    · exact b x hx
  · unfold updF at hx
    split at hx
    · rename_i e; subst e; cases hx; exact ⟨upd_same, z⟩
    · rename_i e; rw [upd_ne e]; exact c x u hx
  · by_cases q : x = d
    · subst q; rw [upd_same]; simp
    · rw [upd_ne q]; exact dd x hx
  · subst q; omega
  · subst q; omega
theorem in_leF {F' : Addr → Option HO} (hs : ∀ x u, F x = some u → F' x = some u) (hr : ∀ x, R x ≠ 0 → F x ≠ none) (h : In K F' R H ρ σ l) : In K F R H ρ σ l := by
  obtain ⟨O1, O2, a, b, c, dd, e, f⟩ := h
  exact ⟨O1, O2, a, hr, fun x u hx => c x u (hs x u hx), dd, e, f⟩
theorem in_F {d : Addr} {w : HO} (hF : F d = some w) (h : In K F R H ρ σ l) : H d = some w := by
  obtain ⟨O1, O2, a, b, c, dd, e, f⟩ := h
  exact (c d w hF).1
theorem in_R (h : In K F R H ρ σ l) : ∀ x, R x ≠ 0 → F x ≠ none := by
  obtain ⟨O1, O2, a, b, c, dd, e, f⟩ := h
  exact b
theorem keys_get {ks : List Key} {vs : List V} {i : Nat} {key : Key} {x : V} (hl : ks.length = vs.length) (h : (ks.zip vs)[i]? = some (key, x)) : (ks.map keyT)[i]? = some (T.lf (kV key)) := by
  have e := (List.getElem?_zip_eq_some.mp h).1
  rw [List.getElem?_map, e]
  cases key <;> rfl
/-- a dict that is walked -/
theorem dct_src {d : Addr} {ks : List Key} {o : Bool} {cs : List T} (h : In K F R H ρ σ ((.nd (.dct ks) o cs, .ref d) :: l)) :
    (∃ od kvs F', H d = some (.frz od (.dK kvs)) ∧ In K F' R H ρ σ ((.nd (.dct ks) o cs, .ref d) :: l) ∧ Src K F' R (ks.map keyT) (Itk d od kvs) [(.nd (.dct ks) o cs, .ref d)] ∧ ∀ H' ρ' σ' l', In K F' R H' ρ' σ' l' → In K F R H' ρ' σ' l') ∨
    ∃ kvs, H d = some (.dK kvs) ∧ ∀ od, ∃ F' srcs', In K F' R (upd H d (.frz od (.dK kvs))) ρ σ (srcs' ++ l) ∧ Src K F' R (ks.map keyT) (Itk d od kvs) srcs' ∧
      ∀ H' ρ' σ' l', In K F' R H' ρ' σ' (srcs' ++ l') → H' d = some (.frz od (.dK kvs)) ∧ In K F R (upd H' d (.dK kvs)) ρ' σ' ((.nd (.dct ks) o cs, .ref d) :: l') := by
  obtain ⟨d', ds, w, e1, e2, c, r, h2⟩ := inP_nd (inP_keep (inP_of h))
  cases e1
  have srcOf : ∀ {F' : Addr → Option HO} {od : Obj} {srcs' : List (T × V)}, (∀ H ρ σ l, In K F' R H ρ σ (srcs' ++ l) → H d = some (.frz od (.dK (ks.zip (ds.map (·.2)))))) → Src K F' R (ks.map keyT) (Itk d od (ks.zip (ds.map (·.2)))) srcs' := by
    intro F' od srcs' hd H ρ σ l i h
    have hl : (ks.zip (ds.map (·.2))).length = ks.length := by
      have := c.1
      rw [List.length_zip]; omega
    refine ⟨fun hi => ⟨⟨hd _ _ _ _ h, by rw [List.length_map] at hi; omega⟩, fun t x H' ht hy => ?_⟩, fun hi => ⟨hd _ _ _ _ h, by rw [List.length_map] at hi; omega⟩⟩
    obtain ⟨rfl, key, y, hk, rfl⟩ := hy
    rw [keys_get c.1 hk] at ht
    cases ht
    exact in_lf _ h
  cases o with
  | true =>
    obtain ⟨a, es, w', e1, e3, c', hp, h3⟩ := in_open h
    cases e1
    have c'' := c'
    obtain ⟨c1, rfl⟩ := c'
    have er : H d = some w := r
    rw [hp] at er
    cases er
    have ew : ks.zip (es.map (·.2)) = ks.zip (ds.map (·.2)) := by
      first
        | exact HO.dK.inj c.2
        | exact (HO.dK.inj c.2).symm
    refine .inr ⟨_, hp, fun od => ⟨F, (.cel (.frz od (.dK (ks.zip (es.map (·.2))))), .ref d) :: es, in_write _ h3, ?_, fun H' ρ' σ' l' h4 => ?_⟩⟩
    · rw [ew]
      exact srcOf fun H ρ σ l h => by
        obtain ⟨q, e, hq⟩ := in_cel h
        cases e
        exact hq
    · obtain ⟨q, e, hq⟩ := in_cel h4
      cases e
      refine ⟨hq, ?_⟩
      have := in_close (k := .dct ks) c'' (in_write (.dK (ks.zip (es.map (·.2)))) h4)
      rw [e3] at this
      exact this
  | false =>
    rcases Rko.dct c r with r | ⟨od, r⟩
    · refine .inr ⟨_, r, fun od => ⟨updF (updF F d (.dK (ks.zip (ds.map (·.2))))) d (.frz od (.dK (ks.zip (ds.map (·.2))))), [(.nd (.dct ks) false cs, .ref d)], ?_, ?_, fun H' ρ' σ' l' h4 => ?_⟩⟩
      · exact in_lk (by simp [updF]) (.inl ⟨_, od, rfl, rfl⟩) (in_setF r h)
      · exact srcOf fun H ρ σ l h => in_F (by simp [updF]) h
      · refine ⟨in_F (by simp [updF]) h4, ?_⟩
        have h5 := in_lk (d := d) (w' := .dK (ks.zip (ds.map (·.2)))) (by simp [updF]) (.inr ⟨_, od, rfl, rfl⟩) h4
        refine in_leF (fun x u hx => ?_) (in_R h) h5
        unfold updF
        by_cases q : x = d
        · subst q
          rw [if_pos rfl]
          have := in_F hx h
          rw [r] at this
          exact this
        · rw [if_neg q, if_neg q, if_neg q]
          exact hx
    · refine .inl ⟨od, _, updF F d (.frz od (.dK (ks.zip (ds.map (·.2))))), r, in_setF r h, srcOf fun H ρ σ l h => in_F (by simp [updF]) h, fun H' ρ' σ' l' h4 => ?_⟩
      refine in_leF (fun x u hx => ?_) (in_R h) h4
      unfold updF
      by_cases q : x = d
      · subst q
        rw [if_pos rfl]
        have := in_F hx h
        rw [r] at this
        exact this
      · rw [if_neg q]
        exact hx
/-! ### comprehensions -/
theorem wipe_get : ∀ {own : List Nat} {i : Nat}, (wipe σ own)[i]? = if i ∈ own ∧ i < σ.length then some none else σ[i]?
  | [], i => by simp [wipe]
  | k :: own, i => by
    show ((wipe σ own).set k none)[i]? = _
    rw [List.getElem?_set, wipe_length, wipe_get]
    by_cases e : k = i
    · subst e
      by_cases hl : k < σ.length
      · simp [hl]
      · simp [hl]
    · simp only [e, if_false, List.mem_cons]
      have e' : ¬ i = k := fun q => e q.symm
      simp [e']
theorem wipe_wipe {own : List Nat} : wipe (wipe σ own) own = wipe σ own := by
  apply List.ext_getElem?
  intro i
  rw [wipe_get, wipe_get, wipe_length]
  split <;> rfl
theorem wipe_set {own : List Nat} {i : Nat} {u : Option V} (h : i ∈ own) : wipe (σ.set i u) own = wipe σ own := by
  apply List.ext_getElem?
  intro j
  rw [wipe_get, wipe_get, List.length_set]
  by_cases q : j ∈ own ∧ j < σ.length
  · rw [if_pos q, if_pos q]
  · rw [if_neg q, if_neg q]
    by_cases e : i = j
    · subst e
      have : ¬ i < σ.length := fun z => q ⟨h, z⟩
      rw [List.set_eq_of_length_le (by omega)]
    · rw [List.getElem?_set_ne e]
theorem in_append {a : Addr} {ts : List T} (h : In K F R H ρ σ ((te, ve) :: (.nd .lst true ts, .ref a) :: l)) : ∃ vs, H a = some (.lst vs) ∧ vs.length = ts.length ∧ In K F R (upd H a (.lst (vs ++ [ve]))) ρ σ ((.nd .lst true (ts ++ [te]), .ref a) :: l) := by
  obtain ⟨a', cs, e, rfl, hp, h2⟩ := in_openL (in_perm (List.Perm.swap _ _ _) h)
  cases e
  refine ⟨_, hp, by simp, ?_⟩
  have h3 : In K F R H ρ σ ((.cel (.lst (cs.map (·.2))), .ref a) :: (cs ++ [(te, ve)]) ++ l) := in_perm (by simp) h2
  have h4 := in_wr h3
  rw [List.map_append, List.map_append] at h4
  exact h4
def SCs (p : Px) (K : PySem.W.Frag) (Φs : Nat → Sp) (Φc : CF) (cs : List Ex) : Prop := ∀ (F : Addr → Option HO) (R : Ow) (σ : L2.St) (ρ : Ev) (l : List (T × V)) (H : Hp) (Q : Bool → Ev → Prop) (Post : Bool → Hp → Prop),
  cCs p Φc cs ρ Q → In K F R H ρ σ l → (∀ k ρ' H', Q k ρ' → In K F R H' ρ' σ l → Post k H') → tCs (tL K Φs cs W0) σ H Post
def lcStep (p : Px) (Φc : CF) (g : Tg) (own : List Nat) (cs : List Ex) (el : Ex) : T → List T → Ev → (List T → Ev → Prop) → Prop :=
  fun t acc ρ Q => bindT g t (wipeE ρ own) fun ρ1 => cCs p Φc cs ρ1 fun b ρ2 => if b = true then (c2 p Φc el).1 noX false ρ2 fun y ρ3 => acc.length < sizeLine ∧ Q (acc ++ [y]) ρ3 else Q acc ρ2
theorem drop_cons {α : Type} {xs : List α} {i : Nat} (h : i < xs.length) : xs.drop i = xs[i] :: xs.drop (i + 1) := (List.getElem_cons_drop (h := h)).symm
theorem lc_run {its : List T} {J : It} {srcs : List (T × V)} (hS : Src K F R its J srcs) {own : List Nat} {g : Tg} (hg : (tgSl g).all own.contains = true) {el : Ex} {cs : List Ex} (hel : SE p K Φs Φc el) (hcs : SCs p K Φs Φc cs)
    {Qf : List T → Ev → Prop} {Post : V → Hp → Prop} (hc : lcLoop (lcStep p Φc g own cs el) its [] ρ Qf) (h : In K F R H ρ σ (srcs ++ l))
    (q : ∀ acc ρ' H' a, Qf acc ρ' → In K F R H' (wipeE ρ' own) (wipe σ own) (srcs ++ (.nd .lst true acc, .ref a) :: l) → Post (.ref a) H') :
    ∀ D, H D = none → ∃ W : Nat → Nat → Hp → Prop, (∃ m, W 0 m (upd H D (.lst []))) ∧ ∀ i m H, W i m H →
      (J.stop i H ∧ Post (.ref D) H) ∨ (J.go i H ∧ ∃ Nx : Hp → Prop, (∀ H', Nx H' → ∃ m', m' < m ∧ W (i + 1) m' H') ∧ ∀ x H', J.yld i H x H' → tTg K g x (wipe σ own) H' fun σ2 H2 => wipe σ2 own = wipe σ own ∧ tCs (tL K Φs cs W0) σ2 H2 fun b H3 =>
        if b = true then (t2 K Φs el W0).1 σ2 H3 fun y H4 => ∃ acc, H4 D = some (.lst acc) ∧ acc.length < sizeLine ∧ Nx (upd H4 D (.lst (acc ++ [y]))) else Nx H3) := by
  intro D hD
  refine ⟨fun i m H => m = its.length - i ∧ i ≤ its.length ∧ ∃ acc ρ', lcLoop (lcStep p Φc g own cs el) (its.drop i) acc ρ' Qf ∧ In K F R H (wipeE ρ' own) (wipe σ own) (srcs ++ (.nd .lst true acc, .ref D) :: l), ⟨its.length, rfl, Nat.zero_le _, [], ρ, hc, ?_⟩, ?_⟩
  · exact in_wp (in_perm List.perm_middle.symm (in_new (k := .lst) (cs := []) hD rfl h))
  · rintro i m H' ⟨rfl, hi, acc, ρ', hl, h2⟩
    obtain ⟨s1, s2⟩ := hS _ _ _ _ i h2
    by_cases e : i < its.length
    · obtain ⟨s3, s4⟩ := s1 e
      refine .inr ⟨s3, fun H'' => ∃ acc ρ'', lcLoop (lcStep p Φc g own cs el) (its.drop (i + 1)) acc ρ'' Qf ∧ In K F R H'' (wipeE ρ'' own) (wipe σ own) (srcs ++ (.nd .lst true acc, .ref D) :: l), fun H'' ⟨acc', ρ'', x1, x2⟩ => ⟨its.length - (i + 1), by omega, rfl, by omega, acc', ρ'', x1, x2⟩, fun x H1 hy => ?_⟩
      rw [drop_cons e] at hl
      have h3 := s4 its[i] x H1 (List.getElem?_eq_getElem e) hy
      refine bind_ok (P := fun σ' => wipe σ' own = wipe σ own) hl h3 (fun σ' j u hj hP => ?_) wipe_wipe fun ρ1 σ1 hq hP h4 => ⟨hP, ?_⟩
      · rw [wipe_set (by simpa using List.all_eq_true.mp hg j hj)]
        exact hP
      · refine hcs _ _ _ _ _ _ _ _ hq h4 fun b ρ2 H3 hq h5 => ?_
        cases b with
        | true =>
          rw [if_pos rfl] at hq ⊢
          refine hel F R σ1 [] noX W0 xok_no _ _ _ _ _ _ hq (by rw [List.append_nil]; exact h5) fun y yv ρ3 H4 hq h6 => ?_
          rw [List.append_nil] at h6
          obtain ⟨hlt, hq⟩ := hq
          have h7 : In K F R H4 ρ3 σ1 ((y, yv) :: (.nd .lst true acc, .ref D) :: (srcs ++ l)) := in_perm (List.Perm.cons _ List.perm_middle) h6
          obtain ⟨vs, e1, e2, h8⟩ := in_append h7
          refine ⟨vs, e1, by omega, acc ++ [y], ρ3, hq, ?_⟩
          have h9 := in_wp (own := own) (in_perm List.perm_middle.symm h8)
          rw [hP] at h9
          exact h9
        | false =>
          rw [if_neg (by decide)] at hq ⊢
          refine ⟨acc, ρ2, hq, ?_⟩
          have h9 := in_wp (own := own) h5
          rw [hP] at h9
          exact h9
    · have : i = its.length := by omega
      subst this
      rw [List.drop_length] at hl
      exact .inl ⟨s2 (Nat.le_refl _), q _ _ _ _ hl h2⟩
end
end PL
set_option Elab.async false
set_option linter.all false
set_option maxRecDepth 100000
set_option maxHeartbeats 8000000
namespace PL
open PySem PySem.Spec PyProof.Rows L2
section
variable {p : Px} {K : PySem.W.Frag} {Φs : Nat → Sp} {Φc : CF} {F : Addr → Option HO} {R : Ow} {H : Hp} {ρ : List T} {σ : L2.St} {l l' pk pk' : List (T × V)} {t u k ta tb te : T} {v tv kv va vb ve : V} {X : CE0} {W : WX} {l0 l1 : List (T × V)} {e : Ex} {es : List Ex}
theorem isVarE_of {i : Nat} (h : isVarE e = some i) : e = .var i := by
  cases e <;> cases h
  rfl
/-- a slot that is read and stays as it is -/
theorem var_ok {i : Nat} {Post : V → Hp → Prop} (ht : ρ[i]? = some t) (hu : isUn t = false) (h : In K F R H ρ σ l) (q : ∀ v, σ[i]? = some (some v) → InP K F R H ρ σ l [(t, v)] → Post v H) : (t2 K Φs (.var i) W).1 σ H Post := by
  obtain ⟨v, hv, h2⟩ := inP_env ht hu (inP_of h)
  exact ⟨v, hv, q v hv h2⟩
theorem ag_ok (hE : SE p K Φs Φc e) (hx : XOk2 K F R σ l0 X W) {Q : Ag → Ev → Prop} {Post : V → Hp → Prop} (hc : agE e ((c2 p Φc e).1 X false) ρ Q) (h : In K F R H ρ σ (l1 ++ l0))
    (q : ∀ a x ρ' H', Q a ρ' → ArgOk σ [a] [x] → In K F R H' ρ' σ (tmps [a] [x] ++ (l1 ++ l0)) → Post x H') : (t2 K Φs e W).1 σ H Post := by
  unfold agE at hc
  split at hc
  · rename_i i hi
    rw [isVarE_of hi]
    obtain ⟨⟨t, ht, hu⟩, hq⟩ := hc
    exact var_ok ht hu h fun v hv h2 => q _ v _ _ hq ⟨hv, trivial⟩ (inP_in h2)
  · exact hE F R σ l0 X W hx _ _ _ _ _ _ hc h fun t v ρ' H' hq h2 => q _ v _ _ hq trivial h2
theorem as_ok : ∀ {es : List Ex} {l1 : List (T × V)} {ρ : Ev} {H : Hp} {Q : List Ag → Ev → Prop} {Post : List V → Hp → Prop}, (∀ e ∈ es, SE p K Φs Φc e) → XOk2 K F R σ l0 X W → cAs p Φc es X ρ Q → In K F R H ρ σ (l1 ++ l0) →
    (∀ as vs ρ' H', Q as ρ' → as.length = es.length → ArgOk σ as vs → In K F R H' ρ' σ (tmps as vs ++ (l1 ++ l0)) → Post vs H') → tAof (tL K Φs es W) σ H Post
  | [], l1, ρ, H, Q, Post, _, hx, hc, h, q => q [] [] ρ H hc rfl trivial h
  | e :: es, l1, ρ, H, Q, Post, hE, hx, hc, h, q => by
    have hc : agE e ((c2 p Φc e).1 X false) ρ (fun a ρ1 => cAs p Φc es X ρ1 fun as ρ2 => Q (a :: as) ρ2) := hc
    refine ag_ok (hE e List.mem_cons_self) hx hc h fun a x ρ' H' hq ha h2 => ?_
    have h2 : In K F R H' ρ' σ ((tmps [a] [x] ++ l1) ++ l0) := by rw [List.append_assoc]; exact h2
    refine as_ok (fun e he => hE e (List.mem_cons_of_mem _ he)) hx hq h2 fun as vs ρ'' H'' hq hl ha2 h3 => ?_
    refine q (a :: as) (x :: vs) ρ'' H'' hq (by simp [hl]) ?_ ?_
    · cases a with
      | v i => exact ⟨ha.1, ha2⟩
      | t t => exact ha2
    · cases a with
      | v i => exact h3
      | t t =>
        refine in_perm ?_ h3
        show (tmps as vs ++ ((t, x) :: l1 ++ l0)).Perm ((t, x) :: tmps as vs ++ (l1 ++ l0))
        exact List.perm_middle
theorem es_ok : ∀ {es : List Ex} {m : Bool} {l1 : List (T × V)} {ρ : Ev} {H : Hp} {Q : List T → Ev → Prop} {Post : List V → Hp → Prop}, (∀ e ∈ es, SE p K Φs Φc e) → XOk2 K F R σ l0 X W → cEs p Φc es X m ρ Q → In K F R H ρ σ (l1 ++ l0) →
    (∀ ts vs ρ' H', Q ts ρ' → ts.length = es.length → ts.length = vs.length → In K F R H' ρ' σ (ts.zip vs ++ (l1 ++ l0)) → Post vs H') → tAof (tL K Φs es W) σ H Post
  | [], m, l1, ρ, H, Q, Post, _, hx, hc, h, q => q [] [] ρ H hc rfl rfl h
  | e :: es, m, l1, ρ, H, Q, Post, hE, hx, hc, h, q => by
    have hc : (c2 p Φc e).1 X (m && mvE e es) ρ (fun t ρ1 => cEs p Φc es X m ρ1 fun ts ρ2 => Q (t :: ts) ρ2) := hc
    refine hE e List.mem_cons_self F R σ l0 X W hx _ _ _ _ _ _ hc h fun t v ρ' H' hq h2 => ?_
    have h2 : In K F R H' ρ' σ (((t, v) :: l1) ++ l0) := h2
    refine es_ok (fun e he => hE e (List.mem_cons_of_mem _ he)) hx hq h2 fun ts vs ρ'' H'' hq hl hl2 h3 => ?_
    refine q (t :: ts) (v :: vs) ρ'' H'' hq (by simp [hl]) (by simp [hl2]) ?_
    exact in_perm List.perm_middle h3
/-- a test by the value's truth -/
theorem st_of (kn : Kn p K) (hE : SE p K Φs Φc e) (hc : (c2 p Φc e).2 = (mk2 p e (c2 p Φc e).1).2) (ht : ∀ W, (t2 K Φs e W).2 = (tru K (t2 K Φs e W).1).2) : ST p K Φs Φc e := by
  intro F R σ l0 X W hx ρ l1 H Q Post hq h q
  rw [hc] at hq
  rw [ht]
  unfold mk2 at hq
  dsimp only at hq
  show (t2 K Φs e W).1 σ H fun x H' => ∃ k, TruV K x H' k ∧ Post k H'
  split at hq
  · obtain ⟨t, h1, k, h2, hq⟩ := hq
    exact q_ok kn e h1 (inP_of h) fun v H' _ _ h3 => ⟨k, tru_T h2 List.mem_cons_self h3, q _ _ _ hq (inP_in h3)⟩
  · exact hE F R σ l0 X W hx _ _ _ _ _ _ hq h fun t v ρ' H' ⟨k, h2, hq⟩ h3 => ⟨k, tru_T h2 List.mem_cons_self (inP_keep (inP_of h3)), q _ _ _ hq (in_drop h3)⟩
/-- .. for expressions that tell a bool -/
def SEb (p : Px) (K : PySem.W.Frag) (Φs : Nat → Sp) (Φc : CF) (e : Ex) : Prop := ∀ (F : Addr → Option HO) (R : Ow) (σ : L2.St) (l0 : List (T × V)) (X : CE0) (W : WX), XOk2 K F R σ l0 X W → ∀ (m : Bool) (ρ : Ev) (l1 : List (T × V)) (H : Hp) (Q : T → Ev → Prop) (Post : V → Hp → Prop),
  (c2 p Φc e).1 X m ρ Q → In K F R H ρ σ (l1 ++ l0) → (∀ k ρ' H', Q (.b k) ρ' → In K F R H' ρ' σ (l1 ++ l0) → Post (.bl k) H') → (t2 K Φs e W).1 σ H Post
theorem se_b (h : SEb p K Φs Φc e) : SE p K Φs Φc e := fun F R σ l0 X W hx m ρ l1 H Q Post hc hi q => h F R σ l0 X W hx m ρ l1 H Q Post hc hi fun k ρ' H' hq h2 => q _ _ _ _ hq (in_lf _ h2)
theorem st_b (h : SEb p K Φs Φc e) (hc : (c2 p Φc e).2 = (mk2 p e (c2 p Φc e).1).2) (hq : quiet e = false) (ht : ∀ W, (t2 K Φs e W).2 = tTest (t2 K Φs e W).1) : ST p K Φs Φc e := by
  intro F R σ l0 X W hx ρ l1 H Q Post h1 hi q
  rw [hc] at h1
  rw [ht]
  unfold mk2 at h1
  dsimp only at h1
  rw [hq, if_neg (by decide)] at h1
  refine h F R σ l0 X W hx _ _ _ _ _ _ h1 hi fun k ρ' H' ⟨k', e1, h2⟩ h3 => ⟨k, rfl, ?_⟩
  cases e1
  exact q _ _ _ h2 h3
/-- two values in hand are looked at -/
theorem in_two (h : In K F R H ρ σ ((tb, vb) :: (ta, va) :: l)) : InP K F R H ρ σ l [(ta, va), (tb, vb)] := inP_temp (inP_temp (inP_of h))
theorem mth1_ex {m : Mt} {Q : T → T → Prop} (h : mth1T m t te Q) : ∃ a b, Q a b := by
  unfold mth1T at h
  split at h
  · exact ⟨_, _, h.2⟩
  · obtain ⟨_, _, _, _, _, _, h⟩ := h; exact ⟨_, _, h⟩
  · exact ⟨_, _, h.2⟩
  · exact h.elim
theorem mth0_ex {m : Mt} {Q : T → T → Prop} (h : mth0T m t Q) : ∃ a b, Q a b := by
  unfold mth0T at h
  split at h
  · obtain ⟨_, _, h⟩ := h; exact ⟨_, _, h⟩
  · exact h.elim
theorem set_ex {ti : T} {Q : T → Prop} (h : setT t ti te Q) : ∃ a, Q a := by
  unfold setT at h
  split at h
  · obtain ⟨_, _, h⟩ := h; exact ⟨_, h⟩
  · obtain ⟨_, _, _, _, h⟩ := h; exact ⟨_, h⟩
  · exact h.elim
theorem setF_ex {f : Str} {Q : T → Prop} (h : setFT p f te t Q) : ∃ a, Q a := by
  unfold setFT at h
  split at h
  · exact ⟨_, h.2.2⟩
  · exact h.elim
theorem mth1_lst {m : Mt} {Q : T → T → Prop} (h : mth1T m t te Q) : isLst t = true := by
  unfold mth1T at h
  split at h <;> first | rfl | exact h.elim
theorem mth0_lst {m : Mt} {Q : T → T → Prop} (h : mth0T m t Q) : isLst t = true := by
  unfold mth0T at h
  split at h <;> first | rfl | exact h.elim
theorem ty_lst (hl : isLst t = true) (m : (t, v) ∈ pk) (h : InP K F R H ρ σ l pk) : tyV K "list" v H := by
  unfold isLst at hl
  split at hl
  · obtain ⟨a, cs, w, rfl, rfl, c, r, _⟩ := inP_nd (inP_mem m h)
    exact .inl ⟨rfl, _, sql_of (Rko.lst c r)⟩
  · cases hl
theorem mth1_rd {m : Mt} {Q : T → T → Prop} {o : TE} {ta : TA} {Post : V → Hp → Prop} (hb : mth1T m t te Q)
    (h : o σ H fun x H1 => tyV K "list" x H1 ∧ ta σ H1 fun xs H2 => (match m with | .append => rAppend | .pop1 => rPopAt | .extend => rExtend | _ => fun _ _ _ _ => False) x xs H2 Post) : tMth K m o ta σ H Post := by
  unfold mth1T at hb
  split at hb
  · exact h
  · exact h
  · exact h
  · exact hb.elim
end
end PL
set_option Elab.async false
set_option linter.all false
set_option maxRecDepth 100000
set_option maxHeartbeats 8000000
namespace PL
open PySem PySem.Spec PyProof.Rows L2
section
variable {p : Px} {K : PySem.W.Frag} {Φs : Nat → Sp} {Φc : CF} {F : Addr → Option HO} {R : Ow} {H : Hp} {ρ : List T} {σ : L2.St} {l l' pk pk' : List (T × V)} {t u k ta tb te : T} {v tv kv va vb ve : V} {X : CE0} {W : WX} {l0 l1 : List (T × V)} {e : Ex} {es : List Ex}
/-- a call, its arguments in hand -/
theorem call_ok (hΦ : PhiOk K Φs Φc) (hx : XOk2 K F R σ l0 X W) {f : Nat} {as : List Ag} {vs : List V} {ρ1 ρ2 : Ev} {ts : List T} {Q : T → Ev → Prop} {Post : V → Hp → Prop} (ha : ArgOk σ as vs) (hl : lend as ρ1 = some (ts, ρ2))
    (hc : Φc f ts (fun r os => Q r (back as ts os ρ2)) fun c t => X c t ρ2) (h : In K F R H ρ1 σ (tmps as vs ++ (l1 ++ l0))) (q : ∀ t v ρ' H', Q t ρ' → In K F R H' ρ' σ ((t, v) :: (l1 ++ l0)) → Post v H') : Φs f vs H Post (WE W σ) := by
  obtain ⟨h2, hl2⟩ := lend_ok ha hl h
  obtain ⟨F', R', h3, ret⟩ := in_call2 h2
  refine hΦ f ts _ _ hc F' R' H vs Post _ hl2 h3 (fun H' r v os hq ho h4 => ?_) fun H' c t dd hX h4 => ?_
  · have h5 := ret _ _ h4
    refine q r v _ H' hq (back_ok (l := (r, v) :: (l1 ++ l0)) ha hl2 ho ?_)
    exact in_perm List.perm_middle.symm h5
  · exact hx c t ρ2 H' dd l1 hX (ret _ _ h4)
/-- a new object -/
theorem new_ok (hΦ : PhiOk K Φs Φc) (hx : XOk2 K F R σ l0 X W) {c : Str} {f : Nat} {as : List Ag} {vs : List V} {ρ1 ρ2 : Ev} {ts : List T} {Q : T → Ev → Prop} {Post : V → Hp → Prop} (ha : ArgOk σ as vs) (hl : lend as ρ1 = some (ts, ρ2))
    (hc : Φc f (.nd (.obj c []) true [] :: ts) (fun r os => r = .n ∧ ∃ o os', os = o :: os' ∧ isUn o = false ∧ Q o (back as ts os' ρ2)) fun c t => X c t ρ2) (h : In K F R H ρ1 σ (tmps as vs ++ (l1 ++ l0)))
    (q : ∀ t v ρ' H', Q t ρ' → In K F R H' ρ' σ ((t, v) :: (l1 ++ l0)) → Post v H') {x dx : Addr} (h1 : H x = none) (h2 : H dx = none) (h3 : dx ≠ x) :
    Φs f (.ref x :: vs) (upd (upd H dx (.own x)) x (.ins (He.ga K c) dx [])) (fun v H2 => v = .non ∧ Post (.ref x) H2) (WE W σ) := by
  have hx1 : upd H dx (.own x) x = none := by rw [upd_ne (Ne.symm h3)]; exact h1
  have i1 := in_drop (in_alloc (.own x) h2 h)
  obtain ⟨i2, hl2⟩ := lend_ok ha hl i1
  have i3 : In K F R (upd (upd H dx (.own x)) x (.ins (He.ga K c) dx [])) ρ2 σ (((.nd (.obj c []) true [], .ref x) :: ts.zip vs) ++ (l1 ++ l0)) :=
    in_new (k := .obj c []) (cs := []) hx1 ⟨rfl, dx, rfl⟩ i2
  obtain ⟨F', R', i4, ret⟩ := in_call2 i3
  refine hΦ f _ _ _ hc F' R' _ (.ref x :: vs) _ _ (by simp [hl2]) i4 (fun H' r v os hq ho i5 => ?_) fun H' c t dd hX i5 => ?_
  · obtain ⟨rfl, o, os', rfl, hu, hq⟩ := hq
    have e := in_fl i5
    subst e
    refine ⟨rfl, ?_⟩
    have i6 := ret _ _ (in_drop i5)
    refine q o (.ref x) _ H' hq (back_ok (l := (o, .ref x) :: (l1 ++ l0)) ha hl2 (by simpa using ho) ?_)
    exact in_perm List.perm_middle.symm i6
  · exact hx c t ρ2 H' dd l1 hX (ret _ _ i5)
/-- what is read off something in hand -/
theorem in_fzP (h : In K F R H ρ σ ((t, v) :: l)) : InP K F R H ρ σ l [(fz t, v)] := inP_temp (inP_of (in_fz h))
theorem isLst_un (h : isLst t = true) : isUn t = false := by
  cases t <;> first | rfl | cases h
theorem mth_path (kn : Kn p K) {o : Ex} {m : Mt} {Q : T → Ev → Prop} {Post : V → Hp → Prop} (ht : cq p e ρ = some te) (ho : ow te = false) (hn : cq p o ρ = some t) (hm : mth1T m t te fun t' r => ∃ ρ1, cput p o ρ t' = some ρ1 ∧ Q r ρ1)
    (h : In K F R H ρ σ l) (q : ∀ t v ρ' H', Q t ρ' → In K F R H' ρ' σ ((t, v) :: l) → Post v H') : tMth K m (t2 K Φs o W).1 (tAof (tL K Φs [e] W)) σ H Post := by
  obtain ⟨_, _, ρ1, hp, _⟩ := mth1_ex hm
  obtain ⟨v, _, _, hv, _, _⟩ := pl_open o hn hp h
  refine mth1_rd hm (pl_read kn o hn hv (inP_of h) fun H1 le h1 => ⟨ty_lst (mth1_lst hm) List.mem_cons_self h1, ?_⟩)
  show (t2 K Φs e W).1 σ H1 fun x H2 => _
  refine q_ok kn e ht h1 fun ve H2 _ le2 h2 => ?_
  have h3 := inP_in (inP_up ho h2)
  obtain ⟨v', ρ0, lx, hv', h4, close⟩ := pl_open o hn hp h3
  have e1 := vAt_le le2 (vAt_le le hv)
  rw [hv'] at e1
  cases e1
  have h5 : In K F R H2 ρ0 σ ((te, ve) :: (t, v) :: (lx ++ l)) := in_perm (List.perm_middle (l₁ := (t, v) :: lx)) h4
  refine mth1_ok hm h5 fun t' r w H' ⟨ρ', hp', hq⟩ h6 => ?_
  refine q r w ρ' H' hq (close t' ρ' hp' H' ((r, w) :: l) ?_)
  exact in_perm (List.Perm.cons _ List.perm_middle.symm) h6
theorem mth_var (kn : Kn p K) {j : Nat} {m : Mt} {Q : T → Ev → Prop} {Post : V → Hp → Prop} (hE : SE p K Φs Φc e) (hx : XOk2 K F R σ l0 X W) (hj : ∃ t, ρ[j]? = some t ∧ isLst t = true)
    (hc : (c2 p Φc e).1 X false ρ fun te ρ1 => ∃ t, ρ1[j]? = some t ∧ isUn t = false ∧ mth1T m t te fun t' r => Q r (ρ1.set j t')) (hk : m = .append ∨ m = .pop1 ∨ m = .extend)
    (h : In K F R H ρ σ (l1 ++ l0)) (q : ∀ t v ρ' H', Q t ρ' → In K F R H' ρ' σ ((t, v) :: (l1 ++ l0)) → Post v H') : tMth K m (t2 K Φs (.var j) W).1 (tAof (tL K Φs [e] W)) σ H Post := by
  obtain ⟨t0, h0, hl0⟩ := hj
  have main : (t2 K Φs (.var j) W).1 σ H fun x H1 => tyV K "list" x H1 ∧ tAof (tL K Φs [e] W) σ H1 fun xs H2 => (match m with | .append => rAppend | .pop1 => rPopAt | .extend => rExtend | _ => fun _ _ _ _ => False) x xs H2 Post := by
    refine var_ok h0 (isLst_un hl0) h fun v hv h1 => ⟨ty_lst hl0 List.mem_cons_self h1, ?_⟩
    show (t2 K Φs e W).1 σ H fun x H2 => _
    refine hE F R σ l0 X W hx _ _ _ _ _ _ hc h fun te ve ρ1 H2 ⟨t, ht, hu, hm⟩ h2 => ?_
    obtain ⟨v', hv', h3⟩ := in_take ht hu h2
    rw [hv] at hv'
    cases hv'
    refine mth1_ok hm (in_perm (List.Perm.swap _ _ _) h3) fun t' r w H' hq h4 => ?_
    have h5 := in_put' hv h4
    rw [List.set_set] at h5
    exact q r w _ H' hq h5
  rcases hk with rfl | rfl | rfl <;> exact main
theorem mth0_path (kn : Kn p K) {o : Ex} {m : Mt} {Q : T → Ev → Prop} {Post : V → Hp → Prop} {tt : TA} (hn : cq p o ρ = some t) (hm : mth0T m t fun t' r => ∃ ρ1, cput p o ρ t' = some ρ1 ∧ Q r ρ1)
    (h : In K F R H ρ σ l) (q : ∀ t v ρ' H', Q t ρ' → In K F R H' ρ' σ ((t, v) :: l) → Post v H') : tMth K m (t2 K Φs o W).1 tt σ H Post := by
  obtain ⟨_, _, ρ1, hp, _⟩ := mth0_ex hm
  obtain ⟨v, _, _, hv, _, _⟩ := pl_open o hn hp h
  have em : m = .pop0 := by
    have hm' := hm
    unfold mth0T at hm'
    split at hm'
    · rfl
    · exact hm'.elim
  subst em
  show tBM0 K "list" rPop _ σ H Post
  refine pl_read kn o hn hv (inP_of h) fun H1 le h1 => ⟨ty_lst (mth0_lst hm) List.mem_cons_self h1, ?_⟩
  obtain ⟨v', ρ0, lx, hv', h4, close⟩ := pl_open o hn hp (inP_in h1)
  have e1 := vAt_le le hv
  rw [hv'] at e1
  cases e1
  refine (mth0_ok hm h4 fun t' r w H' ⟨ρ', hp', hq⟩ h6 => ?_).2
  exact q r w ρ' H' hq (close t' ρ' hp' H' ((r, w) :: l) (in_perm (List.Perm.cons _ List.perm_middle.symm) h6))
end
end PL
set_option Elab.async false
set_option linter.all false
set_option maxRecDepth 100000
set_option maxHeartbeats 16000000
namespace PL
open PySem PySem.Spec PyProof.Rows L2
mutual
theorem ow_fz : ∀ (t : T), ow (fz t) = false
  | .un => rfl
  | .lf _ => rfl
  | .cls _ => rfl
  | .scr _ => rfl
  | .cel _ => rfl
  | .tup ts => ow_fzs ts
  | .nd k o ts => by
    unfold fz
    split <;> rfl
theorem ow_fzs : ∀ (ts : List T), ows (fzs ts) = false
  | [] => rfl
  | t :: ts => by
    show (ow (fz t) || ows (fzs ts)) = false
    rw [ow_fz t, ow_fzs ts] <;> rfl
end
theorem un_fz : ∀ {t : T}, isUn t = false → ow t = true → isUn (fz t) = false ∨ ∃ w, t = .cel w
  | .un, h, _ => by cases h
  | .lf _, _, _ => .inl rfl
  | .cls _, _, _ => .inl rfl
  | .scr _, _, _ => .inl rfl
  | .cel w, _, _ => .inr ⟨w, rfl⟩
  | .tup ts, _, _ => .inl rfl
  | .nd k o ts, _, _ => .inl (by unfold fz; split <;> rfl)
section
variable {p : Px} {K : PySem.W.Frag} {Φs : Nat → Sp} {Φc : CF} {F : Addr → Option HO} {R : Ow} {H : Hp} {ρ : List T} {σ : L2.St} {l l' pk pk' : List (T × V)} {t u k ta tb te : T} {v tv kv va vb ve : V} {X : CE0} {W : WX} {l0 l1 : List (T × V)} {e : Ex} {es : List Ex}
theorem se_var (i : Nat) : SE p K Φs Φc (.var i) := by
  intro F R σ l0 X W hx m ρ l1 H Q Post hc h q
  have hc : ∃ t, ρ[i]? = some t ∧ isUn t = false ∧ if ow t = true then (if m = true then Q t (ρ.set i .un) else Q (fz t) (ρ.set i (fz t))) else Q t ρ := hc
  obtain ⟨t, ht, hu, hc⟩ := hc
  by_cases ho : ow t = true
  · rw [if_pos ho] at hc
    obtain ⟨v, hv, h2⟩ := in_take ht hu h
    refine ⟨v, hv, ?_⟩
    cases m with
    | true => exact q _ _ _ _ hc h2
    | false =>
      have h3 := in_put' hv (in_dup (ow_fz t) (in_fz h2))
      rw [List.set_set] at h3
      exact q _ _ _ _ hc h3
  · rw [if_neg ho] at hc
    obtain ⟨v, hv, h2⟩ := in_get ht hu (by simpa using ho) h
    exact ⟨v, hv, q _ _ _ _ hc h2⟩
theorem pt_ok (hE : SE p K Φs Φc e) (hx : XOk2 K F R σ l0 X W) {Q : Option Int → Ev → Prop} {Post : Option Int → Hp → Prop} (hc : ptE e ((c2 p Φc e).1 X false) ρ Q) (h : In K F R H ρ σ (l1 ++ l0))
    (q : ∀ o ρ' H', Q o ρ' → In K F R H' ρ' σ (l1 ++ l0) → Post o H') : tPt e (t2 K Φs e W) σ H Post := by
  unfold ptE at hc
  unfold tPt
  by_cases hn : isNon e = true
  · rw [if_pos hn] at hc ⊢
    exact q _ _ _ hc h
  · rw [if_neg hn] at hc ⊢
    refine hE F R σ l0 X W hx _ _ _ _ _ _ hc h fun t v ρ' H' ⟨i, e1, hq⟩ h2 => ?_
    subst e1
    have e2 := in_fl h2
    subst e2
    exact ⟨i, rfl, q _ _ _ hq (in_drop h2)⟩
theorem putK_app {kvs : List (Key × V)} {key : Key} {v : V} (h : ∀ kv ∈ kvs, kv.1 ≠ key) : putK kvs key v = kvs ++ [(key, v)] := by
  unfold putK
  rw [if_neg]
  intro z
  obtain ⟨kv, hm, e⟩ := List.any_eq_true.mp z
  exact h kv hm (of_decide_eq_true e)
theorem mergeK_app : ∀ {more kvs : List (Key × V)}, ((kvs ++ more).map (·.1)).Nodup → mergeK kvs more = kvs ++ more
  | [], kvs, _ => by simp [mergeK]
  | (k, v) :: more, kvs, h => by
    have h1 : putK kvs k v = kvs ++ [(k, v)] := putK_app fun kv hm e => by
      rw [List.map_append, List.map_cons] at h
      have := (List.nodup_append.mp h).2.2 kv.1 (List.mem_map_of_mem hm) k List.mem_cons_self
      exact this e
    show mergeK (putK kvs k v) more = _
    rw [h1, mergeK_app (by simpa using h)]
    simp
theorem ds_ok : ∀ {ks vs : List Ex} {l1 : List (T × V)} {ρ : Ev} {H : Hp} {Q : List Key → List T → Ev → Prop} {Post : List (V × V) → Hp → Prop}, (∀ e ∈ ks, SE p K Φs Φc e) → (∀ e ∈ vs, SE p K Φs Φc e) → XOk2 K F R σ l0 X W → cDs p Φc ks (c1s p Φc vs) X ρ Q → In K F R H ρ σ (l1 ++ l0) →
    (∀ xs ts ws ρ' H', Q xs ts ρ' → xs.length = ts.length → ts.length = ws.length → In K F R H' ρ' σ (ts.zip ws ++ (l1 ++ l0)) → Post ((xs.zip ws).map fun kv => (kV kv.1, kv.2)) H') → tPairs (tPair (tL K Φs ks W) (tL K Φs vs W)) σ H Post
  | [], vs, l1, ρ, H, Q, Post, _, _, hx, hc, h, q => by
    have hc : c1s p Φc vs = [] ∧ Q [] [] ρ := hc
    exact q [] [] [] ρ H hc.2 rfl rfl h
  | k :: ks, [], l1, ρ, H, Q, Post, _, _, hx, hc, h, q => False.elim hc
  | k :: ks, v :: vs, l1, ρ, H, Q, Post, hk, hv, hx, hc, h, q => by
    have hc : (c2 p Φc k).1 X false ρ fun tk ρ1 => ∃ x, toKey tk = some x ∧ (c2 p Φc v).1 X false ρ1 fun tv ρ2 => cDs p Φc ks (c1s p Φc vs) X ρ2 fun xs ts ρ3 => Q (x :: xs) (tv :: ts) ρ3 := hc
    refine hk k List.mem_cons_self F R σ l0 X W hx _ _ _ _ _ _ hc h fun tk vk ρ1 H1 ⟨x, ex, hc⟩ h1 => ?_
    have ek := toKey_ok ex (inP_keep (inP_of h1))
    refine hv v List.mem_cons_self F R σ l0 X W hx _ _ _ _ _ _ hc (in_drop h1) fun tv vv ρ2 H2 hc h2 => ?_
    have h2 : In K F R H2 ρ2 σ (((tv, vv) :: l1) ++ l0) := h2
    refine ds_ok (fun e he => hk e (List.mem_cons_of_mem _ he)) (fun e he => hv e (List.mem_cons_of_mem _ he)) hx hc h2 fun xs ts ws ρ3 H3 hq e1 e2 h3 => ?_
    have := q (x :: xs) (tv :: ts) (vv :: ws) ρ3 H3 hq (by simp [e1]) (by simp [e2]) (in_perm List.perm_middle h3)
    rw [ek]
    exact this
theorem se_dct {ks vs : List Ex} (hk : ∀ e ∈ ks, SE p K Φs Φc e) (hv : ∀ e ∈ vs, SE p K Φs Φc e) : SE p K Φs Φc (.dct ks vs) := by
  intro F R σ l0 X W hx m ρ l1 H Q Post hc h q
  have hc : if ks.isEmpty = true then Q (.nd (.dct []) true []) ρ else cDs p Φc ks (c1s p Φc vs) X ρ fun xs ts ρ1 => xs.Nodup ∧ xs.length ≤ 15 ∧ Q (.nd (.dct xs) true ts) ρ1 := hc
  show (if ks.isEmpty = true then tDNewK else tDisp (tPair (tL K Φs ks W) (tL K Φs vs W))) σ H Post
  by_cases hn : ks.isEmpty = true
  · rw [if_pos hn] at hc ⊢
    exact fun a ha => q _ _ _ _ hc (in_new (k := .dct []) (cs := []) ha ⟨rfl, rfl⟩ h)
  · rw [if_neg hn] at hc ⊢
    intro a ha
    have h1 : In K F R (upd H a (.dK [])) ρ σ (((.cel (.dK []), .ref a) :: l1) ++ l0) := in_alloc _ ha h
    refine ds_ok hk hv hx hc h1 fun xs ts ws ρ' H' ⟨nd, l15, hq⟩ e1 e2 h2 => ?_
    have h3 : In K F R H' ρ' σ ((.cel (.dK []), .ref a) :: (ts.zip ws ++ (l1 ++ l0))) := in_perm List.perm_middle h2
    obtain ⟨a', ea, hp⟩ := in_cel h3
    cases ea
    have e3 : (xs.zip ws).map (·.1) = xs := List.map_fst_zip (by omega)
    refine ⟨hp, xs.zip ws, rfl, by rw [List.length_zip]; omega, ?_⟩
    have em : mergeK [] (xs.zip ws) = xs.zip ws := by
      have := mergeK_app (more := xs.zip ws) (kvs := []) (by rw [List.nil_append, e3]; exact nd)
      simpa using this
    rw [em]
    have f1 : (ts.zip ws).map (·.1) = ts := List.map_fst_zip (by omega)
    have f2 : (ts.zip ws).map (·.2) = ws := List.map_snd_zip (by omega)
    have h4 := in_close (k := .dct xs) (cs := ts.zip ws) (by rw [f2]; exact ⟨by omega, rfl⟩) (in_write (.dK (xs.zip ws)) h3)
    rw [f1] at h4
    exact q _ _ _ _ hq h4
theorem se_blt (kn : Kn p K) {b : Bl} {es : List Ex} (hE : ∀ e ∈ es, SE p K Φs Φc e) : SE p K Φs Φc (.blt b es) := by
  intro F R σ l0 X W hx m ρ l1 H Q Post hc h q
  match es, hE, hc with
  | [], _, hc => exact False.elim hc
  | _ :: _ :: _ :: _, _, hc => exact False.elim hc
  | [a], hE, hc =>
    have hc : if quiet a = true then ∃ t, cq p a ρ = some t ∧ bltT b t fun r => Q r ρ else (c2 p Φc a).1 X false ρ fun t ρ1 => bltT b (fz t) fun r => Q r ρ1 := hc
    show (t2 K Φs a W).1 σ H fun x H1 => rBlt K b [x] H1 Post
    split at hc
    · obtain ⟨t, ht, hc⟩ := hc
      exact q_ok kn a ht (inP_of h) fun v H' _ _ h2 => blt_ok hc List.mem_cons_self h2 fun r w H'' hq h3 => q _ _ _ _ hq h3
    · refine hE a List.mem_cons_self F R σ l0 X W hx _ _ _ _ _ _ hc h fun t v ρ' H' hq h2 => ?_
      exact blt_ok hq List.mem_cons_self (in_fzP h2) fun r w H'' hq h3 => q _ _ _ _ hq h3
  | [a, c], hE, hc =>
    have hc : if b = .isinst then (if quiet a = true then ∃ t tg us, cq p a ρ = some t ∧ tagOf t = some tg ∧ clsOf c = some us ∧ okTags p tg us = true ∧ Q (.b (us.any (isi tg))) ρ
        else (c2 p Φc a).1 X false ρ fun t ρ1 => ∃ tg us, tagOf t = some tg ∧ clsOf c = some us ∧ okTags p tg us = true ∧ Q (.b (us.any (isi tg))) ρ1)
      else (c2 p Φc a).1 X false ρ fun ta ρ1 => (c2 p Φc c).1 X false ρ1 fun tb ρ2 => blt2T b ta tb fun r => Q r ρ2 := hc
    show (t2 K Φs a W).1 σ H fun x H1 => (t2 K Φs c W).1 σ H1 fun y H2 => rBlt K b [x, y] H2 Post
    by_cases hb : b = .isinst
    · rw [if_pos hb] at hc
      rw [hb]
      split at hc
      · obtain ⟨t, tg, us, h1, h2, h3, h4, hq⟩ := hc
        refine q_ok kn a h1 (inP_of h) fun v H' _ _ h5 => isi_ok kn h3 h2 h4 List.mem_cons_self h5 fun H'' h6 => ?_
        exact q _ _ _ _ hq (in_lf _ (inP_in h6))
      · refine hE a List.mem_cons_self F R σ l0 X W hx _ _ _ _ _ _ hc h fun t v ρ' H' ⟨tg, us, h2, h3, h4, hq⟩ h5 => ?_
        refine isi_ok kn h3 h2 h4 List.mem_cons_self (inP_temp (inP_of h5)) fun H'' h6 => ?_
        exact q _ _ _ _ hq (in_lf _ (inP_in h6))
    · rw [if_neg hb] at hc
      refine hE a List.mem_cons_self F R σ l0 X W hx _ _ _ _ _ _ hc h fun t v ρ' H' hc h2 => ?_
      have h2 : In K F R H' ρ' σ (((t, v) :: l1) ++ l0) := h2
      refine hE c (List.mem_cons_of_mem _ List.mem_cons_self) F R σ l0 X W hx _ _ _ _ _ _ hc h2 fun t' v' ρ'' H'' hq h3 => ?_
      exact blt2_ok hq List.mem_cons_self (List.mem_cons_of_mem _ List.mem_cons_self) (in_two h3) fun r w H3 hq h4 => q _ _ _ _ hq h4
theorem se_mth (kn : Kn p K) {m : Mt} {o : Ex} {es : List Ex} (hE : ∀ e ∈ es, SE p K Φs Φc e) : SE p K Φs Φc (.mth m o es) := by
  intro F R σ l0 X W hx md ρ l1 H Q Post hc h q
  match es, hE, hc with
  | _ :: _ :: _, _, hc => exact False.elim hc
  | [], _, hc =>
    have hc : ∃ t, cq p o ρ = some t ∧ mth0T m t fun t' r => ∃ ρ1, cput p o ρ t' = some ρ1 ∧ Q r ρ1 := hc
    obtain ⟨t, ht, hm⟩ := hc
    exact mth0_path kn ht hm h q
  | [e], hE, hc =>
    have hc : match isVarE o with
      | some j => (∃ t, ρ[j]? = some t ∧ isLst t = true) ∧ isM1 m = true ∧ (c2 p Φc e).1 X false ρ fun te ρ1 => ∃ t, ρ1[j]? = some t ∧ isUn t = false ∧ mth1T m t te fun t' r => Q r (ρ1.set j t')
      | none => ∃ te, quiet e = true ∧ cq p e ρ = some te ∧ ow te = false ∧ ∃ t, cq p o ρ = some t ∧ mth1T m t te fun t' r => ∃ ρ1, cput p o ρ t' = some ρ1 ∧ Q r ρ1 := hc
    split at hc
    · rename_i j hj
      have := isVarE_of hj
      subst this
      have hk : m = .append ∨ m = .pop1 ∨ m = .extend := by
        have := hc.2.1
        cases m <;> first | exact .inl rfl | exact .inr (.inl rfl) | exact .inr (.inr rfl) | cases this
      exact mth_var kn (hE e List.mem_cons_self) hx hc.1 hc.2.2 hk h q
    · obtain ⟨te, _, h1, h2, t, h3, h4⟩ := hc
      exact mth_path kn h1 h2 h3 h4 h q
end
end PL
set_option Elab.async false
set_option linter.all false
set_option maxRecDepth 100000
set_option maxHeartbeats 16000000
namespace PL
open PySem PySem.Spec PyProof.Rows L2
section
variable {p : Px} {K : PySem.W.Frag} {Φs : Nat → Sp} {Φc : CF} {F : Addr → Option HO} {R : Ow} {H : Hp} {ρ : List T} {σ : L2.St} {l l' pk pk' : List (T × V)} {t u k ta tb te : T} {v tv kv va vb ve : V} {X : CE0} {W : WX} {l0 l1 : List (T × V)} {e : Ex} {es : List Ex}
theorem se_bin {op : Operator} {a b : Ex} (ha : SE p K Φs Φc a) (hb : SE p K Φs Φc b) : SE p K Φs Φc (.bin op a b) := by
  intro F R σ l0 X W hx m ρ l1 H Q Post hc h q
  have hc : (c2 p Φc a).1 X false ρ fun ta ρ1 => (c2 p Φc b).1 X false ρ1 fun tb ρ2 => binT op ta tb fun t => Q t ρ2 := hc
  refine ha F R σ l0 X W hx _ _ _ _ _ _ hc h fun ta va ρ1 H1 hc h1 => ?_
  have h1 : In K F R H1 ρ1 σ (((ta, va) :: l1) ++ l0) := h1
  refine hb F R σ l0 X W hx _ _ _ _ _ _ hc h1 fun tb vb ρ2 H2 hc h2 => ?_
  exact bin_ok hc h2 fun t v H' hq h3 => q _ _ _ _ hq h3
theorem se_neg {a : Ex} (ha : SE p K Φs Φc a) : SE p K Φs Φc (.neg a) := by
  intro F R σ l0 X W hx m ρ l1 H Q Post hc h q
  have hc : (c2 p Φc a).1 X false ρ fun t ρ1 => ∃ i, t = .i i ∧ Q (.i (-i)) ρ1 := hc
  refine ha F R σ l0 X W hx _ _ _ _ _ _ hc h fun ta va ρ1 H1 ⟨i, e1, hq⟩ h1 => ?_
  subst e1
  have e2 := in_fl h1
  subst e2
  exact ⟨i, rfl, q _ _ _ _ hq (in_lf _ (in_drop h1))⟩
theorem seb_not (kn : Kn p K) {a : Ex} (ha : SE p K Φs Φc a) : SEb p K Φs Φc (.not a) := by
  intro F R σ l0 X W hx m ρ l1 H Q Post hc h q
  have hc : if quiet a = true then ∃ t, cq p a ρ = some t ∧ ∃ k, truT t = some k ∧ Q (.b (!k)) ρ else (c2 p Φc a).1 X false ρ fun t ρ1 => ∃ k, truT t = some k ∧ Q (.b (!k)) ρ1 := hc
  show (t2 K Φs a W).1 σ H fun x H1 => ∃ k, TruV K x H1 k ∧ Post (.bl (!k)) H1
  split at hc
  · obtain ⟨t, ht, k, hk, hq⟩ := hc
    exact q_ok kn a ht (inP_of h) fun v H' _ _ h2 => ⟨k, tru_T hk List.mem_cons_self h2, q _ _ _ hq (inP_in h2)⟩
  · exact ha F R σ l0 X W hx _ _ _ _ _ _ hc h fun t v ρ' H' ⟨k, hk, hq⟩ h2 => ⟨k, tru_T hk List.mem_cons_self (inP_keep (inP_of h2)), q _ _ _ hq (in_drop h2)⟩
theorem seb_cmp (kn : Kn p K) {op : CmpOp} {a b : Ex} (ha : SE p K Φs Φc a) (hb : SE p K Φs Φc b) : SEb p K Φs Φc (.cmp op a b) := by
  intro F R σ l0 X W hx m ρ l1 H Q Post hc h q
  have hc : if (quiet a && quiet b) = true then ∃ ta tb, cq p a ρ = some ta ∧ cq p b ρ = some tb ∧ ∃ k, cmpT op ta tb = some k ∧ Q (.b k) ρ
      else (c2 p Φc a).1 X false ρ fun ta ρ1 => (c2 p Φc b).1 X false ρ1 fun tb ρ2 => ∃ k, cmpT op ta tb = some k ∧ Q (.b k) ρ2 := hc
  show (t2 K Φs a W).1 σ H fun x H1 => (t2 K Φs b W).1 σ H1 fun y H2 => rCmp K op x y H2 Post
  split at hc
  · obtain ⟨ta, tb, h1, h2, k, hk, hq⟩ := hc
    refine q_ok kn a h1 (inP_of h) fun v H' _ _ h3 => q_ok kn b h2 h3 fun w H'' _ _ h4 => ?_
    exact cmp_ok hk (List.mem_cons_of_mem _ List.mem_cons_self) List.mem_cons_self h4 (q _ _ _ hq (inP_in h4))
  · refine ha F R σ l0 X W hx _ _ _ _ _ _ hc h fun ta va ρ1 H1 hc h1 => ?_
    have h1 : In K F R H1 ρ1 σ (((ta, va) :: l1) ++ l0) := h1
    refine hb F R σ l0 X W hx _ _ _ _ _ _ hc h1 fun tb vb ρ2 H2 ⟨k, hk, hq⟩ h2 => ?_
    have h3 := in_two h2
    exact cmp_ok hk List.mem_cons_self (List.mem_cons_of_mem _ List.mem_cons_self) h3 (q _ _ _ hq (inP_in h3))
theorem seb_chain (kn : Kn p K) {o1 o2 : CmpOp} {a b c : Ex} (ha : SE p K Φs Φc a) (hb : SE p K Φs Φc b) (hcc : SE p K Φs Φc c) : SEb p K Φs Φc (.chain o1 o2 a b c) := by
  intro F R σ l0 X W hx m ρ l1 H Q Post hc h q
  have hc : (c2 p Φc a).1 X false ρ fun ta ρ1 => (c2 p Φc b).1 X false ρ1 fun tb ρ2 => ∃ k, cmpT o1 ta tb = some k ∧
      if k = true then (c2 p Φc c).1 X false ρ2 fun tc ρ3 => ∃ k2, cmpT o2 tb tc = some k2 ∧ Q (.b k2) ρ3 else Q (.b false) ρ2 := hc
  show (t2 K Φs a W).1 σ H fun x H1 => (t2 K Φs b W).1 σ H1 fun y H2 => rCmp K o1 x y H2 fun z H3 => ∃ k, z = .bl k ∧ if k = true then (t2 K Φs c W).1 σ H3 fun w H4 => rCmp K o2 y w H4 Post else Post (.bl false) H3
  refine ha F R σ l0 X W hx _ _ _ _ _ _ hc h fun ta va ρ1 H1 hc h1 => ?_
  have h1 : In K F R H1 ρ1 σ (((ta, va) :: l1) ++ l0) := h1
  refine hb F R σ l0 X W hx _ _ _ _ _ _ hc h1 fun tb vb ρ2 H2 ⟨k, hk, hq⟩ h2 => ?_
  have h3 := in_two h2
  refine cmp_ok hk List.mem_cons_self (List.mem_cons_of_mem _ List.mem_cons_self) h3 ⟨k, rfl, ?_⟩
  cases k with
  | false =>
    rw [if_neg (by decide)] at hq ⊢
    exact q _ _ _ hq (inP_in h3)
  | true =>
    rw [if_pos rfl] at hq ⊢
    have h2 : In K F R H2 ρ2 σ (((tb, vb) :: (ta, va) :: l1) ++ l0) := h2
    refine hcc F R σ l0 X W hx _ _ _ _ _ _ hq h2 fun tc vc ρ3 H3 ⟨k2, hk2, hq⟩ h4 => ?_
    have h5 := in_two h4
    exact cmp_ok hk2 List.mem_cons_self (List.mem_cons_of_mem _ List.mem_cons_self) h5 (q _ _ _ hq (in_drop (inP_in h5)))
theorem se_and {a b : Ex} (ha : SE p K Φs Φc a) (hb : SE p K Φs Φc b) : SE p K Φs Φc (.and a b) := by
  intro F R σ l0 X W hx m ρ l1 H Q Post hc h q
  have hc : (c2 p Φc a).1 X false ρ fun t ρ1 => ∃ k, truT t = some k ∧ if k = true then (c2 p Φc b).1 X false ρ1 Q else Q t ρ1 := hc
  show (t2 K Φs a W).1 σ H fun x H1 => ∃ k, TruV K x H1 k ∧ if k = true then (t2 K Φs b W).1 σ H1 Post else Post x H1
  refine ha F R σ l0 X W hx _ _ _ _ _ _ hc h fun t v ρ' H' ⟨k, hk, hq⟩ h2 => ⟨k, tru_T hk List.mem_cons_self (inP_keep (inP_of h2)), ?_⟩
  cases k with
  | false =>
    rw [if_neg (by decide)] at hq ⊢
    exact q _ _ _ _ hq h2
  | true =>
    rw [if_pos rfl] at hq ⊢
    exact hb F R σ l0 X W hx _ _ _ _ _ _ hq (in_drop h2) q
theorem se_or {a b : Ex} (ha : SE p K Φs Φc a) (hb : SE p K Φs Φc b) : SE p K Φs Φc (.or a b) := by
  intro F R σ l0 X W hx m ρ l1 H Q Post hc h q
  have hc : (c2 p Φc a).1 X false ρ fun t ρ1 => ∃ k, truT t = some k ∧ if k = true then Q t ρ1 else (c2 p Φc b).1 X false ρ1 Q := hc
  show (t2 K Φs a W).1 σ H fun x H1 => ∃ k, TruV K x H1 k ∧ if k = true then Post x H1 else (t2 K Φs b W).1 σ H1 Post
  refine ha F R σ l0 X W hx _ _ _ _ _ _ hc h fun t v ρ' H' ⟨k, hk, hq⟩ h2 => ⟨k, tru_T hk List.mem_cons_self (inP_keep (inP_of h2)), ?_⟩
  cases k with
  | false =>
    rw [if_neg (by decide)] at hq ⊢
    exact hb F R σ l0 X W hx _ _ _ _ _ _ hq (in_drop h2) q
  | true =>
    rw [if_pos rfl] at hq ⊢
    exact q _ _ _ _ hq h2
theorem se_ite {c a b : Ex} (hcc : ST p K Φs Φc c) (ha : SE p K Φs Φc a) (hb : SE p K Φs Φc b) : SE p K Φs Φc (.ite c a b) := by
  intro F R σ l0 X W hx m ρ l1 H Q Post hc h q
  have hc : (c2 p Φc c).2 X ρ fun k ρ1 => if k = true then (c2 p Φc a).1 X m ρ1 Q else (c2 p Φc b).1 X m ρ1 Q := hc
  refine hcc F R σ l0 X W hx _ _ _ _ _ hc h fun k ρ' H' hq h2 => ?_
  cases k with
  | false =>
    rw [if_neg (by decide)] at hq ⊢
    exact hb F R σ l0 X W hx _ _ _ _ _ _ hq h2 q
  | true =>
    rw [if_pos rfl] at hq ⊢
    exact ha F R σ l0 X W hx _ _ _ _ _ _ hq h2 q
theorem st_not {a : Ex} (ha : ST p K Φs Φc a) : ST p K Φs Φc (.not a) := by
  intro F R σ l0 X W hx ρ l1 H Q Post hc h q
  have hc : (c2 p Φc a).2 X ρ fun k ρ1 => Q (!k) ρ1 := hc
  exact ha F R σ l0 X W hx _ _ _ _ _ hc h fun k ρ' H' hq h2 => q _ _ _ hq h2
theorem st_and {a b : Ex} (ha : ST p K Φs Φc a) (hb : ST p K Φs Φc b) : ST p K Φs Φc (.and a b) := by
  intro F R σ l0 X W hx ρ l1 H Q Post hc h q
  have hc : (c2 p Φc a).2 X ρ fun k ρ1 => if k = true then (c2 p Φc b).2 X ρ1 Q else Q false ρ1 := hc
  refine ha F R σ l0 X W hx _ _ _ _ _ hc h fun k ρ' H' hq h2 => ?_
  cases k with
  | false =>
    rw [if_neg (by decide)] at hq ⊢
    exact q _ _ _ hq h2
  | true =>
    rw [if_pos rfl] at hq ⊢
    exact hb F R σ l0 X W hx _ _ _ _ _ hq h2 q
theorem st_or {a b : Ex} (ha : ST p K Φs Φc a) (hb : ST p K Φs Φc b) : ST p K Φs Φc (.or a b) := by
  intro F R σ l0 X W hx ρ l1 H Q Post hc h q
  have hc : (c2 p Φc a).2 X ρ fun k ρ1 => if k = true then Q true ρ1 else (c2 p Φc b).2 X ρ1 Q := hc
  refine ha F R σ l0 X W hx _ _ _ _ _ hc h fun k ρ' H' hq h2 => ?_
  cases k with
  | false =>
    rw [if_neg (by decide)] at hq ⊢
    exact hb F R σ l0 X W hx _ _ _ _ _ hq h2 q
  | true =>
    rw [if_pos rfl] at hq ⊢
    exact q _ _ _ hq h2
theorem st_ite {c a b : Ex} (hcc : ST p K Φs Φc c) (ha : ST p K Φs Φc a) (hb : ST p K Φs Φc b) : ST p K Φs Φc (.ite c a b) := by
  intro F R σ l0 X W hx ρ l1 H Q Post hc h q
  have hc : (c2 p Φc c).2 X ρ fun k ρ1 => if k = true then (c2 p Φc a).2 X ρ1 Q else (c2 p Φc b).2 X ρ1 Q := hc
  refine hcc F R σ l0 X W hx _ _ _ _ _ hc h fun k ρ' H' hq h2 => ?_
  cases k with
  | false =>
    rw [if_neg (by decide)] at hq ⊢
    exact hb F R σ l0 X W hx _ _ _ _ _ hq h2 q
  | true =>
    rw [if_pos rfl] at hq ⊢
    exact ha F R σ l0 X W hx _ _ _ _ _ hq h2 q
theorem zip_fst {ts : List T} {vs : List V} (h : ts.length = vs.length) : (ts.zip vs).map (·.1) = ts := List.map_fst_zip (by omega)
theorem zip_snd {ts : List T} {vs : List V} (h : ts.length = vs.length) : (ts.zip vs).map (·.2) = vs := List.map_snd_zip (by omega)
theorem se_lst {es : List Ex} (hE : ∀ e ∈ es, SE p K Φs Φc e) : SE p K Φs Φc (.lst es) := by
  intro F R σ l0 X W hx m ρ l1 H Q Post hc h q
  have hc : cEs p Φc es X m ρ fun ts ρ1 => ts.length ≤ sizeLine ∧ Q (.nd .lst true ts) ρ1 := hc
  refine es_ok hE hx hc h fun ts vs ρ' H' ⟨hl, hq⟩ _ e2 h2 => ⟨by omega, fun a ha => ?_⟩
  have h3 := in_new (k := .lst) (w := .lst vs) ha (by rw [zip_snd e2] <;> rfl) h2
  rw [zip_fst e2] at h3
  exact q _ _ _ _ hq h3
theorem se_tup {es : List Ex} (hE : ∀ e ∈ es, SE p K Φs Φc e) : SE p K Φs Φc (.tup es) := by
  intro F R σ l0 X W hx m ρ l1 H Q Post hc h q
  have hc : cEs p Φc es X m ρ fun ts ρ1 => ts.length ≤ sizeLine ∧ Q (.tup ts) ρ1 := hc
  refine es_ok hE hx hc h fun ts vs ρ' H' ⟨hl, hq⟩ _ e2 h2 => ⟨by omega, fun a ha => ?_⟩
  have h3 := in_newT ha h2
  rw [zip_fst e2, zip_snd e2] at h3
  exact q _ _ _ _ hq h3
theorem se_call (hΦ : PhiOk K Φs Φc) {f : Nat} {es : List Ex} (hE : ∀ e ∈ es, SE p K Φs Φc e) : SE p K Φs Φc (.call f es) := by
  intro F R σ l0 X W hx m ρ l1 H Q Post hc h q
  have hc : cAs p Φc es X ρ fun as ρ1 => ∃ ts ρ2, lend as ρ1 = some (ts, ρ2) ∧ Φc f ts (fun r os => Q r (back as ts os ρ2)) fun c t => X c t ρ2 := hc
  exact as_ok hE hx hc h fun as vs ρ' H' ⟨ts, ρ2, hl, hq⟩ _ ha h2 => call_ok hΦ hx ha hl hq h2 q
theorem se_new (hΦ : PhiOk K Φs Φc) {c : Str} {f : Nat} {es : List Ex} (hE : ∀ e ∈ es, SE p K Φs Φc e) : SE p K Φs Φc (.new c f es) := by
  intro F R σ l0 X W hx m ρ l1 H Q Post hc h q
  have hc : cAs p Φc es X ρ fun as ρ1 => ∃ ts ρ2, lend as ρ1 = some (ts, ρ2) ∧ Φc f (.nd (.obj c []) true [] :: ts) (fun r os => r = .n ∧ ∃ o os', os = o :: os' ∧ isUn o = false ∧ Q o (back as ts os' ρ2)) fun c t => X c t ρ2 := hc
  exact as_ok hE hx hc h fun as vs ρ' H' ⟨ts, ρ2, hl, hq⟩ _ ha h2 x dx h3 h4 h5 => new_ok hΦ hx ha hl hq h2 q h3 h4 h5
theorem lookup_none {m : Str} : ∀ {fs : List Str} {vs : List V}, fs.contains m = false → (fs.zip vs).lookup m = none
  | [], _, _ => rfl
  | _ :: _, [], _ => rfl
  | f :: fs, v :: vs, h => by
    rw [List.contains_cons] at h
    obtain ⟨h1, h2⟩ := Bool.or_eq_false_iff.mp h
    rw [List.zip_cons_cons, List.lookup_cons, h1]
    exact lookup_none h2
theorem se_meth (hΦ : PhiOk K Φs Φc) {c mn : Str} {f : Nat} {o : Ex} {es : List Ex} (ho : SE p K Φs Φc o) (hE : ∀ e ∈ es, SE p K Φs Φc e) : SE p K Φs Φc (.meth c mn f o es) := by
  intro F R σ l0 X W hx m ρ l1 H Q Post hc h q
  have hc : agE o ((c2 p Φc o).1 X false) ρ fun a ρ1 => (∃ fs b ts, agT a ρ1 = some (.nd (.obj c fs) b ts) ∧ fs.contains mn = false) ∧ cAs p Φc es X ρ1 fun as ρ2 => ∃ ts ρ3, lend (a :: as) ρ2 = some (ts, ρ3) ∧
      Φc f ts (fun r os => Q r (back (a :: as) ts os ρ3)) fun c t => X c t ρ3 := hc
  show (t2 K Φs o W).1 σ H fun x H1 => ∃ a dx fs, x = .ref a ∧ H1 a = some (.ins (He.ga K c) dx fs) ∧ fs.lookup mn = none ∧ tAof (tL K Φs es W) σ H1 fun vs H2 => Φs f (x :: vs) H2 Post (WE W σ)
  refine ag_ok ho hx hc h fun a x ρ1 H1 ⟨⟨fs, b, ts, e1, e2⟩, hc⟩ ha h1 => ?_
  have hP : InP K F R H1 ρ1 σ (tmps [a] [x] ++ (l1 ++ l0)) [(.nd (.obj c fs) b ts, x)] := by
    cases a with
    | v i =>
      obtain ⟨v', hv, h2⟩ := inP_env e1 rfl (inP_of h1)
      rw [ha.1] at hv
      cases hv
      exact h2
    | t t =>
      cases e1
      exact inP_keep (inP_of h1)
  obtain ⟨ad, cs, w, rfl, rfl, cc, r, _⟩ := inP_nd hP
  obtain ⟨dx, hp⟩ := Rko.obj cc r
  refine ⟨ad, dx, _, rfl, hp, lookup_none e2, ?_⟩
  have h2 : In K F R H1 ρ1 σ ((tmps [a] [.ref ad] ++ l1) ++ l0) := by rw [List.append_assoc]; exact h1
  refine as_ok hE hx hc h2 fun as vs ρ2 H2 ⟨ts, ρ3, hl, hq⟩ _ ha2 h3 => ?_
  refine call_ok (as := a :: as) (vs := .ref ad :: vs) (l1 := l1) (l0 := l0) hΦ hx ?_ hl hq ?_ q
  · cases a with
    | v i => exact ⟨ha.1, ha2⟩
    | t t => exact ha2
  · cases a with
    | v i => exact h3
    | t t => exact in_perm List.perm_middle h3
theorem se_attr (kn : Kn p K) {o : Ex} {f : Str} (ho : SE p K Φs Φc o) : SE p K Φs Φc (.attr o f) := by
  intro F R σ l0 X W hx m ρ l1 H Q Post hc h q
  have hc : if quiet o = true then ∃ t, cq p (.attr o f) ρ = some t ∧ ow t = false ∧ Q t ρ else (c2 p Φc o).1 X false ρ fun t ρ1 => ∃ u, fldT p f (fz t) = some u ∧ isUn u = false ∧ ow u = false ∧ Q u ρ1 := hc
  split at hc
  · obtain ⟨t, ht, hw, hq⟩ := hc
    exact q_ok kn (.attr o f) ht (inP_of h) fun v H' _ _ h2 => q _ _ _ _ hq (inP_in (inP_up hw h2))
  · show (t2 K Φs o W).1 σ H fun x H1 => _
    refine ho F R σ l0 X W hx _ _ _ _ _ _ hc h fun t v ρ' H' ⟨u, h1, _, h3, hq⟩ h2 => ?_
    exact fld_ok (Post := Post) kn h1 (in_fzP h2) fun z hz => q _ _ _ _ hq (inP_in (inP_up h3 hz))
theorem in_fzAt {i : Nat} (ht : ρ[i]? = some t) (hn : isUn t = false) (h : In K F R H ρ σ l) : In K F R H (ρ.set i (fz t)) σ l := by
  obtain ⟨v, hv, h1⟩ := in_take ht hn h
  have h2 := in_put' hv (in_fz h1)
  rwa [List.set_set] at h2
theorem in_frzS {i : Nat} {k : Bool} (h : In K F R H ρ σ l) : In K F R H (frzS i ρ k ρ[i]?) σ l := by
  cases e : ρ[i]? with
  | none => exact h
  | some t =>
    show In K F R H (frzW i ρ k t (ow t)) σ l
    cases e2 : ow t with
    | false => exact h
    | true =>
      cases k with
      | false => exact h
      | true =>
        refine in_fzAt e ?_ h
        cases t <;> first | rfl | cases e2
theorem in_pre {body : Nat → Bool} : ∀ {ss : List Ex} {ρ : Ev}, In K F R H ρ σ l → In K F R H (pre body ss ρ) σ l
  | [], ρ, h => h
  | e :: ss, ρ, h => by
    refine in_pre (ss := ss) ?_
    cases isVarE e with
    | none => exact h
    | some j => exact in_frzS h
theorem isDct_fz {t0 ti t : T} (h : idxT (fz t0) ti = some t) : isUn (fz t0) = false ∧ isDct (fz t0) = isDct t0 := by
  cases t0 with
  | nd kd o ts =>
    unfold fz
    split <;> exact ⟨rfl, by cases kd <;> rfl⟩
  | cel w => exact absurd h (by unfold fz idxT; simp)
  | un => exact absurd h (by unfold fz idxT; simp)
  | _ => exact ⟨rfl, rfl⟩
theorem se_idx (kn : Kn p K) {o i : Ex} (ho : SE p K Φs Φc o) (hi : SE p K Φs Φc i) : SE p K Φs Φc (.idx o i) := by
  intro F R σ l0 X W hx m ρ l1 H Q Post hc h q
  have hc : match isVarE o with
    | some j => ∃ tj, ρ[j]? = some tj ∧ isUn tj = false ∧ (c2 p Φc i).1 X false ρ fun ti ρ1 => ∃ t0 t, ρ1[j]? = some t0 ∧ isUn t0 = false ∧ isDct t0 = isDct tj ∧ isUn t = false ∧ ow t = false ∧ ((idxT t0 ti = some t ∧ Q t ρ1) ∨ (idxT (fz t0) ti = some t ∧ Q t (ρ1.set j (fz t0))))
    | none => if (quiet o && quiet i) = true then ∃ t, cq p (.idx o i) ρ = some t ∧ ow t = false ∧ Q t ρ
        else (c2 p Φc o).1 X false ρ fun t0 ρ1 => (c2 p Φc i).1 X false ρ1 fun ti ρ2 => ∃ t, isDct t0 = false ∧ idxT (fz t0) ti = some t ∧ isUn t = false ∧ ow t = false ∧ Q t ρ2 := hc
  split at hc
  · rename_i j hj
    have := isVarE_of hj
    subst this
    obtain ⟨tj, h1, h2, hc⟩ := hc
    cases hd : isDct tj with
    | false =>
      refine .inl ?_
      show (t2 K Φs (.var j) W).1 σ H fun x H1 => (t2 K Φs i W).1 σ H1 fun y H2 => rIx K x y H2 Post
      refine var_ok h1 h2 h fun v hv h3 => ?_
      refine hi F R σ l0 X W hx _ _ _ _ _ _ hc h fun ti vi ρ1 H1 ⟨t0, t, e1, e2, e3, e5, e6, hq⟩ h4 => ?_
      rcases hq with ⟨e4, hq⟩ | ⟨e4, hq⟩
      · obtain ⟨v', hv', h5⟩ := inP_env e1 e2 (inP_temp (inP_of h4))
        rw [hv] at hv'
        cases hv'
        exact idx_L (by rw [e3, hd]) e4 List.mem_cons_self (List.mem_cons_of_mem _ List.mem_cons_self) h5 fun z hz => q _ _ _ _ hq (inP_in (inP_up e6 hz))
      · obtain ⟨w1, w2⟩ := isDct_fz e4
        have e7 : (ρ1.set j (fz t0))[j]? = some (fz t0) := by
          rw [List.getElem?_set_self]
          exact (List.getElem?_eq_some_iff.mp e1).1
        obtain ⟨v', hv', h5⟩ := inP_env e7 w1 (inP_temp (inP_of (in_fzAt e1 e2 h4)))
        rw [hv] at hv'
        cases hv'
        exact idx_L (by rw [w2, e3, hd]) e4 List.mem_cons_self (List.mem_cons_of_mem _ List.mem_cons_self) h5 fun z hz => q _ _ _ _ hq (inP_in (inP_up e6 hz))
    | true =>
      refine .inr ?_
      show (t2 K Φs (.var j) W).1 σ H fun x H1 => (t2 K Φs i W).1 σ H1 fun y H2 => ∃ a v, x = .ref a ∧ DGet H2 a y (some v) ∧ Post v H2
      refine var_ok h1 h2 h fun v hv h3 => ?_
      refine hi F R σ l0 X W hx _ _ _ _ _ _ hc h fun ti vi ρ1 H1 ⟨t0, t, e1, e2, e3, e5, e6, hq⟩ h4 => ?_
      rcases hq with ⟨e4, hq⟩ | ⟨e4, hq⟩
      · obtain ⟨v', hv', h5⟩ := inP_env e1 e2 (inP_temp (inP_of h4))
        rw [hv] at hv'
        cases hv'
        exact idx_D (by rw [e3, hd]) e4 List.mem_cons_self (List.mem_cons_of_mem _ List.mem_cons_self) h5 fun z hz => q _ _ _ _ hq (inP_in (inP_up e6 hz))
      · obtain ⟨w1, w2⟩ := isDct_fz e4
        have e7 : (ρ1.set j (fz t0))[j]? = some (fz t0) := by
          rw [List.getElem?_set_self]
          exact (List.getElem?_eq_some_iff.mp e1).1
        obtain ⟨v', hv', h5⟩ := inP_env e7 w1 (inP_temp (inP_of (in_fzAt e1 e2 h4)))
        rw [hv] at hv'
        cases hv'
        exact idx_D (by rw [w2, e3, hd]) e4 List.mem_cons_self (List.mem_cons_of_mem _ List.mem_cons_self) h5 fun z hz => q _ _ _ _ hq (inP_in (inP_up e6 hz))
  · split at hc
    · obtain ⟨t, ht, hw, hq⟩ := hc
      exact q_ok kn (.idx o i) ht (inP_of h) fun v H' _ _ h2 => q _ _ _ _ hq (inP_in (inP_up hw h2))
    · refine .inl ?_
      show (t2 K Φs o W).1 σ H fun x H1 => (t2 K Φs i W).1 σ H1 fun y H2 => rIx K x y H2 Post
      refine ho F R σ l0 X W hx _ _ _ _ _ _ hc h fun t0 v0 ρ1 H1 hc h1 => ?_
      have h1 : In K F R H1 ρ1 σ (((t0, v0) :: l1) ++ l0) := h1
      refine hi F R σ l0 X W hx _ _ _ _ _ _ hc h1 fun ti vi ρ2 H2 ⟨t, e3, e4, e5, e6, hq⟩ h2 => ?_
      have h3 := inP_temp (inP_of (in_fz (in_perm (List.Perm.swap _ _ _) h2)))
      have h4 := inP_temp h3
      have hd : isDct (fz t0) = false := by
        cases t0 with
        | nd kd o ts =>
          unfold fz
          cases kd <;> first | (split <;> rfl) | cases e3
        | _ => rfl
      exact idx_L hd e4 (List.mem_cons_of_mem _ List.mem_cons_self) List.mem_cons_self h4 fun z hz => q _ _ _ _ hq (inP_in (inP_up e6 hz))
theorem se_slc (kn : Kn p K) {o lo hi : Ex} (ho : SE p K Φs Φc o) (hl : SE p K Φs Φc lo) (hh : SE p K Φs Φc hi) : SE p K Φs Φc (.slc o lo hi) := by
  intro F R σ l0 X W hx m ρ l1 H Q Post hc h q
  have hc : match isVarE o with
    | some j => (∃ t, ρ[j]? = some t ∧ isUn t = false) ∧ (if isNon lo = true then ptE hi ((c2 p Φc hi).1 X false) ρ fun h ρ2 => ∃ t, ρ2[j]? = some t ∧ isUn t = false ∧ sliceT t none h fun r => Q r ρ2
        else (c2 p Φc lo).1 X false ρ fun tl ρ1 => ∃ l, tl = .i l ∧ ptE hi ((c2 p Φc hi).1 X false) ρ1 fun h ρ2 => ∃ t, ρ2[j]? = some t ∧ isUn t = false ∧ sliceT t (some l) h fun r => Q r ρ2)
    | none => (c2 p Φc o).1 X false ρ fun t ρ0 => (if isNon lo = true then ptE hi ((c2 p Φc hi).1 X false) ρ0 fun h ρ2 => sliceT (fz t) none h fun r => Q r ρ2
        else (c2 p Φc lo).1 X false ρ0 fun tl ρ1 => ∃ l, tl = .i l ∧ ptE hi ((c2 p Φc hi).1 X false) ρ1 fun h ρ2 => sliceT (fz t) (some l) h fun r => Q r ρ2) := hc
  show (t2 K Φs o W).1 σ H fun x H1 => tPt lo (t2 K Φs lo W) σ H1 fun a H2 => tPt hi (t2 K Φs hi W) σ H2 fun b H3 => rSl K x a b H3 Post
  split at hc
  · rename_i j hj
    have := isVarE_of hj
    subst this
    obtain ⟨⟨tj, h1, h2⟩, hc⟩ := hc
    refine var_ok h1 h2 h fun v hv h3 => ?_
    have fin : ∀ {a b : Option Int} {ρ2 : Ev} {H2 : Hp}, (∃ t, ρ2[j]? = some t ∧ isUn t = false ∧ sliceT t a b fun r => Q r ρ2) → In K F R H2 ρ2 σ (l1 ++ l0) → rSl K v a b H2 Post := fun ⟨t, e1, e2, e3⟩ h4 => by
      obtain ⟨v', hv', h5⟩ := inP_env e1 e2 (inP_of h4)
      rw [hv] at hv'
      cases hv'
      exact slice_ok e3 List.mem_cons_self h5 fun r w H' hq h6 => q _ _ _ _ hq h6
    by_cases hn : isNon lo = true
    · rw [if_pos hn] at hc
      unfold tPt
      rw [if_pos hn]
      exact pt_ok hh hx hc h fun b ρ2 H2 hq h4 => fin hq h4
    · rw [if_neg hn] at hc
      rw [show tPt lo (t2 K Φs lo W) = tPart (t2 K Φs lo W).1 from by unfold tPt; rw [if_neg hn]]
      refine hl F R σ l0 X W hx _ _ _ _ _ _ hc h fun tl vl ρ1 H1 ⟨n, e1, hc⟩ h4 => ?_
      subst e1
      have e2 := in_fl h4
      subst e2
      exact ⟨n, rfl, pt_ok hh hx hc (in_drop h4) fun b ρ2 H2 hq h4 => fin hq h4⟩
  · refine ho F R σ l0 X W hx _ _ _ _ _ _ hc h fun t0 v0 ρ0 H0 hc h1 => ?_
    have h1 : In K F R H0 ρ0 σ (((t0, v0) :: l1) ++ l0) := h1
    by_cases hn : isNon lo = true
    · rw [if_pos hn] at hc
      rw [show tPt lo (t2 K Φs lo W) = tNoPart from by unfold tPt; rw [if_pos hn]]
      exact pt_ok hh hx hc h1 fun b ρ2 H2 hq h4 => slice_ok hq List.mem_cons_self (in_fzP h4) fun r w H' hq h6 => q _ _ _ _ hq h6
    · rw [if_neg hn] at hc
      rw [show tPt lo (t2 K Φs lo W) = tPart (t2 K Φs lo W).1 from by unfold tPt; rw [if_neg hn]]
      refine hl F R σ l0 X W hx _ _ _ _ _ _ hc h1 fun tl vl ρ1 H1 ⟨n, e1, hc⟩ h4 => ?_
      subst e1
      have e2 := in_fl h4
      subst e2
      exact ⟨n, rfl, pt_ok hh hx hc (in_drop h4) fun b ρ2 H2 hq h4 => slice_ok hq List.mem_cons_self (in_fzP h4) fun r w H' hq h6 => q _ _ _ _ hq h6⟩
end
end PL
set_option Elab.async false
set_option linter.all false
set_option maxRecDepth 100000
set_option maxHeartbeats 16000000
namespace PL
open PySem PySem.Spec PyProof.Rows L2
section
variable {p : Px} {K : PySem.W.Frag} {Φs : Nat → Sp} {Φc : CF} {F : Addr → Option HO} {R : Ow} {H : Hp} {ρ : List T} {σ : L2.St} {l l' pk pk' : List (T × V)} {t u ta tb te : T} {v tv kv va vb ve : V} {X : CE0} {W : WX} {l0 l1 : List (T × V)} {e : Ex} {es : List Ex}
theorem dvar_of {k : Sk} {ss : List Ex} (h : dvar k ss ρ = true) : ∃ j t, k = .seq ∧ ss = [.var j] ∧ ρ[j]? = some t ∧ isDct t = true := by
  unfold dvar at h
  split at h
  · split at h
    · exact ⟨_, _, rfl, rfl, ‹_›, h⟩
    · cases h
  · cases h
theorem isDct_of (h : isDct t = true) : ∃ ks o cs, t = .nd (.dct ks) o cs := by
  unfold isDct at h
  split at h
  · exact ⟨_, _, _, rfl⟩
  · cases h
theorem lend_var {j : Nat} {ts : List T} {ρ2 : Ev} (ht : ρ[j]? = some t) (h : lend [.v j] ρ = some (ts, ρ2)) : ts = [t] ∧ isUn t = false := by
  unfold lend at h
  rw [ht] at h
  have h : (if isUn t = true then none else (lend [] (if ow t = true then ρ.set j .un else ρ)).map fun q => (t :: q.1, q.2)) = some (ts, ρ2) := h
  split at h
  · cases h
  · rename_i hu
    cases h
    exact ⟨rfl, by simpa using hu⟩
theorem lcf_ok {as : List Ag} {vs : List V} {ts us : List T} {ρ2 ρ3 : Ev} {own : List Nat} {sv : List (T × V)} {a : Addr} {acc : List T} (ha : ArgOk σ as vs) (hl : ts.length = vs.length) (hu : us.length = vs.length)
    (hsv : ∀ H' ρ' l', In K F R H' ρ' σ (sv ++ l') → In K F R H' (resE ρ2 own ρ') σ l') (h : In K F R H (wipeE ρ3 own) (wipe σ own) (us.zip vs ++ (.nd .lst true acc, .ref a) :: (sv ++ l))) :
    In K F R H (back as ts us (resE ρ2 own (wipeE ρ3 own))) σ ((.nd .lst true acc, .ref a) :: l) := by
  have h1 := in_unwipe h
  have h2 : In K F R H (wipeE ρ3 own) σ (sv ++ (us.zip vs ++ (.nd .lst true acc, .ref a) :: l)) := by
    refine in_perm ?_ h1
    have e1 : (us.zip vs ++ (T.nd .lst true acc, V.ref a) :: (sv ++ l)) = (us.zip vs ++ [(T.nd .lst true acc, V.ref a)]) ++ (sv ++ l) := by simp
    have e2 : (sv ++ (us.zip vs ++ (T.nd .lst true acc, V.ref a) :: l)) = sv ++ ((us.zip vs ++ [(T.nd .lst true acc, V.ref a)]) ++ l) := by simp
    rw [e1, e2, ← List.append_assoc, ← List.append_assoc]
    exact List.perm_append_comm.append_right l
  exact back_ok ha hl hu (hsv _ _ _ h2)
theorem in_fzss : ∀ {ts : List T} {vs : List V} {l : List (T × V)}, In K F R H ρ σ (ts.zip vs ++ l) → In K F R H ρ σ ((fzs ts).zip vs ++ l)
  | [], _, _, h => by
    unfold fzs
    exact h
  | t :: ts, [], _, h => by
    unfold fzs
    exact h
  | t :: ts, v :: vs, l, h => by
    unfold fzs
    have h1 : In K F R H ρ σ ((fz t, v) :: (ts.zip vs ++ l)) := in_fz h
    have h2 : In K F R H ρ σ (ts.zip vs ++ (fz t, v) :: l) := in_perm List.perm_middle.symm h1
    exact in_perm List.perm_middle (in_fzss h2)
theorem fzs_len : ∀ {ts : List T}, (fzs ts).length = ts.length
  | [] => rfl
  | t :: ts => by
    unfold fzs
    simp [fzs_len (ts := ts)]
theorem in_us {ts us : List T} {vs : List V} {c : Prop} (hu : us = ts ∨ (c ∧ us = fzs ts)) (h : In K F R H ρ σ (ts.zip vs ++ l)) : In K F R H ρ σ (us.zip vs ++ l) := by
  rcases hu with rfl | ⟨_, rfl⟩
  · exact h
  · exact in_fzss h
theorem us_len {ts us : List T} {vs : List V} {c : Prop} (hu : us = ts ∨ (c ∧ us = fzs ts)) (h : ts.length = vs.length) : us.length = vs.length := by
  rcases hu with rfl | ⟨_, rfl⟩
  · exact h
  · rw [fzs_len, h]
theorem perm3 {α : Type} (a b c : List α) : (a ++ (b ++ c)).Perm (b ++ (a ++ c)) := by
  rw [← List.append_assoc, ← List.append_assoc]
  exact List.perm_append_comm.append_right c
theorem se_lc {el : Ex} {tg : Tg} {k : Sk} {ss cs : List Ex} {own : List Nat} (hel : SE p K Φs Φc el) (hss : ∀ e ∈ ss, SE p K Φs Φc e) (hcs : SCs p K Φs Φc cs) : SE p K Φs Φc (.lc el tg k ss cs own) := by
  intro F R σ l0 X W hx m ρ0 l1 H Q Post hc h q
  obtain ⟨hok, ρ, eρ, hc⟩ := hc
  have h : In K F R H ρ σ (l1 ++ l0) := by
    rw [eρ]
    exact in_pre h
  clear eρ
  have hc : cAs p Φc ss X ρ fun as ρ1 => ∃ ts ρ2 us, lend as ρ1 = some (ts, ρ2) ∧ (us = ts ∨ (dvar k ss ρ = false ∧ us = fzs ts)) ∧ isDct1 us = dvar k ss ρ ∧ ∃ its, itemsT k us = some its ∧ ows its = false ∧ (tgSl tg).all own.contains = true ∧
      lcLoop (lcStep p Φc tg own cs el) its [] ρ2 fun acc ρ3 => Q (.nd .lst true acc) (back as ts us (resE ρ2 own (wipeE ρ3 own))) := hc
  cases hd : dvar k ss ρ with
  | false =>
    rw [hd] at hc
    refine .inl ?_
    show tI K k (tL K Φs ss W) σ H _
    refine tI_of hok (as_ok hss hx hc h fun as vs ρ1 H1 ⟨ts, ρ2, us, hl, hus, hd1, its, hi, ho, hg, hloop⟩ _ ha h1 => ?_)
    obtain ⟨h2, hl2⟩ := lend_ok ha hl h1
    obtain ⟨sv, h3, hsv⟩ := sav_ok (own := own) h2
    have h4 : In K F R H1 ρ2 σ (us.zip vs ++ (sv ++ (l1 ++ l0))) := by
      exact in_us hus (in_perm (perm3 _ _ _) h3)
    refine src_fin hi ho hd1 (us_len hus hl2) h4 fun J hS => ?_
    exact lc_run hS hg hel hcs hloop h4 fun acc ρ3 H' a hq h5 => q _ _ _ _ hq (lcf_ok ha hl2 (us_len hus hl2) hsv h5)
  | true =>
    rw [hd] at hc
    obtain ⟨j, t, rfl, rfl, ht, hdt⟩ := dvar_of hd
    have hc : (∃ t, ρ[j]? = some t ∧ isUn t = false) ∧ ∃ ts ρ2 us, lend [.v j] ρ = some (ts, ρ2) ∧ (us = ts ∨ (true = false ∧ us = fzs ts)) ∧ isDct1 us = true ∧ ∃ its, itemsT .seq us = some its ∧ ows its = false ∧ (tgSl tg).all own.contains = true ∧
      lcLoop (lcStep p Φc tg own cs el) its [] ρ2 fun acc ρ3 => Q (.nd .lst true acc) (back [.v j] ts us (resE ρ2 own (wipeE ρ3 own))) := hc
    obtain ⟨_, ts, ρ2, us, hl, hus, _, its, hi, ho, hg, hloop⟩ := hc
    have hus : us = ts := hus.resolve_right fun h => Bool.noConfusion h.1
    subst hus
    obtain ⟨rfl, hu⟩ := lend_var ht hl
    obtain ⟨v, hv, hP⟩ := inP_env ht hu (inP_of h)
    obtain ⟨ks, o, kcs, rfl⟩ := isDct_of hdt
    obtain ⟨d, _, _, rfl, _⟩ := inP_nd hP
    have ha : ArgOk σ [.v j] [V.ref d] := ⟨hv, trivial⟩
    obtain ⟨h2, hl2⟩ := lend_ok ha hl (show In K F R H ρ σ (tmps [.v j] [V.ref d] ++ (l1 ++ l0)) from h)
    obtain ⟨sv, h3, hsv⟩ := sav_ok (own := own) h2
    have h4 : In K F R H ρ2 σ ((.nd (.dct ks) o kcs, .ref d) :: (sv ++ (l1 ++ l0))) := in_perm List.perm_middle h3
    cases hi
    rcases dct_src h4 with ⟨od, kvs, F', e1, h5, hS, ret⟩ | ⟨kvs, e1, lk⟩
    · refine .inl ?_
      show tI K .seq (tL K Φs [.var j] W) σ H _
      refine ⟨_, hv, .inr (.inr (.inr ⟨d, od, kvs, rfl, e1, ?_⟩))⟩
      refine lc_run hS hg hel hcs hloop h5 fun acc ρ3 H' a hq h6 => ?_
      exact q _ _ _ _ hq (lcf_ok (ts := [.nd (.dct ks) o kcs]) (us := [.nd (.dct ks) o kcs]) ha rfl rfl hsv (ret _ _ _ _ h6))
    · refine .inr ⟨d, _, e1, trivial, fun od => ?_⟩
      obtain ⟨F', srcs', h5, hS, ret⟩ := lk od
      show tI K .seq (tL K Φs [.var j] W) σ _ _
      refine ⟨_, hv, .inr (.inr (.inr ⟨d, od, kvs, rfl, upd_same, ?_⟩))⟩
      refine lc_run (Post := fun v H' => H' d = some (.frz od (.dK kvs)) ∧ Post v (upd H' d (.dK kvs))) hS hg hel hcs hloop h5 fun acc ρ3 H' a hq h6 => ?_
      obtain ⟨e2, h7⟩ := ret _ _ _ _ h6
      exact ⟨e2, q _ _ _ _ hq (lcf_ok (ts := [.nd (.dct ks) o kcs]) (us := [.nd (.dct ks) o kcs]) ha rfl rfl hsv h7)⟩
def AllE (p : Px) (K : PySem.W.Frag) (Φs : Nat → Sp) (Φc : CF) (es : List Ex) : Prop := ∀ e ∈ es, SE p K Φs Φc e ∧ ST p K Φs Φc e
mutual
theorem snd (kn : Kn p K) (hΦ : PhiOk K Φs Φc) : ∀ (e : Ex), SE p K Φs Φc e ∧ ST p K Φs Φc e
  | .var i => ⟨se_var i, st_of kn (se_var i) rfl fun _ => rfl⟩
  | .int i => by
    have : SE p K Φs Φc (.int i) := fun F R σ l0 X W hx m ρ l1 H Q Post hc h q => q _ _ _ _ hc (in_lf _ h)
    exact ⟨this, st_of kn this rfl fun _ => rfl⟩
  | .bl i => by
    have : SE p K Φs Φc (.bl i) := fun F R σ l0 X W hx m ρ l1 H Q Post hc h q => q _ _ _ _ hc (in_lf _ h)
    exact ⟨this, st_of kn this rfl fun _ => rfl⟩
  | .non => by
    have : SE p K Φs Φc .non := fun F R σ l0 X W hx m ρ l1 H Q Post hc h q => q _ _ _ _ hc (in_lf _ h)
    exact ⟨this, st_of kn this rfl fun _ => rfl⟩
  | .str i => by
    have : SE p K Φs Φc (.str i) := fun F R σ l0 X W hx m ρ l1 H Q Post hc h q => q _ _ _ _ hc (in_lf _ h)
    exact ⟨this, st_of kn this rfl fun _ => rfl⟩
  | .ty i => by
    have : SE p K Φs Φc (.ty i) := fun F R σ l0 X W hx m ρ l1 H Q Post hc h q => q _ _ _ _ hc (in_lf _ h)
    exact ⟨this, st_of kn this rfl fun _ => rfl⟩
  | .cls i => by
    have : SE p K Φs Φc (.cls i) := fun F R σ l0 X W hx m ρ l1 H Q Post hc h q => q _ _ _ _ hc (in_cls _ h)
    exact ⟨this, st_of kn this rfl fun _ => rfl⟩
  | .bin op a b => ⟨se_bin (snd kn hΦ a).1 (snd kn hΦ b).1, st_of kn (se_bin (snd kn hΦ a).1 (snd kn hΦ b).1) rfl fun _ => rfl⟩
  | .neg a => ⟨se_neg (snd kn hΦ a).1, st_of kn (se_neg (snd kn hΦ a).1) rfl fun _ => rfl⟩
  | .not a => ⟨se_b (seb_not kn (snd kn hΦ a).1), st_not (snd kn hΦ a).2⟩
  | .and a b => ⟨se_and (snd kn hΦ a).1 (snd kn hΦ b).1, st_and (snd kn hΦ a).2 (snd kn hΦ b).2⟩
  | .or a b => ⟨se_or (snd kn hΦ a).1 (snd kn hΦ b).1, st_or (snd kn hΦ a).2 (snd kn hΦ b).2⟩
  | .ite c a b => ⟨se_ite (snd kn hΦ c).2 (snd kn hΦ a).1 (snd kn hΦ b).1, st_ite (snd kn hΦ c).2 (snd kn hΦ a).2 (snd kn hΦ b).2⟩
  | .cmp op a b => ⟨se_b (seb_cmp kn (snd kn hΦ a).1 (snd kn hΦ b).1), st_b (seb_cmp kn (snd kn hΦ a).1 (snd kn hΦ b).1) rfl rfl fun _ => rfl⟩
  | .chain o1 o2 a b c => ⟨se_b (seb_chain kn (snd kn hΦ a).1 (snd kn hΦ b).1 (snd kn hΦ c).1), st_b (seb_chain kn (snd kn hΦ a).1 (snd kn hΦ b).1 (snd kn hΦ c).1) rfl rfl fun _ => rfl⟩
  | .lst es => ⟨se_lst fun e he => (snds kn hΦ es e he).1, st_of kn (se_lst fun e he => (snds kn hΦ es e he).1) rfl fun _ => rfl⟩
  | .tup es => ⟨se_tup fun e he => (snds kn hΦ es e he).1, st_of kn (se_tup fun e he => (snds kn hΦ es e he).1) rfl fun _ => rfl⟩
  | .dct ks vs => ⟨se_dct (fun e he => (snds kn hΦ ks e he).1) fun e he => (snds kn hΦ vs e he).1, st_of kn (se_dct (fun e he => (snds kn hΦ ks e he).1) fun e he => (snds kn hΦ vs e he).1) rfl fun _ => rfl⟩
  | .call f es => ⟨se_call hΦ fun e he => (snds kn hΦ es e he).1, st_of kn (se_call hΦ fun e he => (snds kn hΦ es e he).1) rfl fun _ => rfl⟩
  | .new c f es => ⟨se_new hΦ fun e he => (snds kn hΦ es e he).1, st_of kn (se_new hΦ fun e he => (snds kn hΦ es e he).1) rfl fun _ => rfl⟩
  | .meth c m f o es => ⟨se_meth hΦ (snd kn hΦ o).1 fun e he => (snds kn hΦ es e he).1, st_of kn (se_meth hΦ (snd kn hΦ o).1 fun e he => (snds kn hΦ es e he).1) rfl fun _ => rfl⟩
  | .blt b es => ⟨se_blt kn fun e he => (snds kn hΦ es e he).1, st_of kn (se_blt kn fun e he => (snds kn hΦ es e he).1) (by unfold c2; rfl) fun _ => rfl⟩
  | .mth m o es => ⟨se_mth kn fun e he => (snds kn hΦ es e he).1, st_of kn (se_mth kn fun e he => (snds kn hΦ es e he).1) (by unfold c2; rfl) fun _ => rfl⟩
  | .attr o f => ⟨se_attr kn (snd kn hΦ o).1, st_of kn (se_attr kn (snd kn hΦ o).1) rfl fun _ => rfl⟩
  | .idx o i => ⟨se_idx kn (snd kn hΦ o).1 (snd kn hΦ i).1, st_of kn (se_idx kn (snd kn hΦ o).1 (snd kn hΦ i).1) rfl fun _ => rfl⟩
  | .slc o lo hi => ⟨se_slc kn (snd kn hΦ o).1 (snd kn hΦ lo).1 (snd kn hΦ hi).1, st_of kn (se_slc kn (snd kn hΦ o).1 (snd kn hΦ lo).1 (snd kn hΦ hi).1) rfl fun _ => rfl⟩
  | .lc el tg k ss cs own => by
    have hcs : SCs p K Φs Φc cs := by
      intro F R σ ρ l H Q Post hc h q
      cases cs with
      | nil => exact q _ _ _ hc h
      | cons c cs =>
        have := (snds kn hΦ (c :: cs) c List.mem_cons_self).2 F R σ [] noX W0 xok_no ρ l H Q Post hc (by rw [List.append_nil]; exact h) fun k ρ' H' hq h2 => q _ _ _ hq (by rw [List.append_nil] at h2; exact h2)
        exact this
    have := se_lc (tg := tg) (k := k) (own := own) (snd kn hΦ el).1 (fun e he => (snds kn hΦ ss e he).1) hcs
    exact ⟨this, st_of kn this rfl fun _ => rfl⟩
  | .dc _ _ _ _ _ _ _ => ⟨fun _ _ _ _ _ _ _ _ _ _ _ _ _ hc _ _ => False.elim hc, fun _ _ _ _ _ _ _ _ _ _ _ _ hc _ _ => False.elim hc⟩
theorem snds (kn : Kn p K) (hΦ : PhiOk K Φs Φc) : ∀ (es : List Ex), AllE p K Φs Φc es
  | [] => fun _ h => nomatch h
  | e :: es => fun x h => by
    rcases List.mem_cons.mp h with h | h
    · rw [h]; exact snd kn hΦ e
    · exact snds kn hΦ es x h
end
end
end PL
set_option Elab.async false
set_option linter.all false
set_option maxRecDepth 100000
set_option maxHeartbeats 16000000
namespace PL
open PySem PySem.Spec PyProof.Rows L2
/-! ### statements over trees -/
structure Ed where
  nx : Ev → Prop
  rt : T → Ev → Prop
  bk : Ev → Prop := fun _ => False
  ct : Ev → Prop := fun _ => False
  xc : CE0
mutual
/-- the slots that are stored -/
def asgS : Cm → List Nat
  | .asg t _ => tgSl t
  | .par2 i j _ _ => [i, j]
  | .par3 i j k _ _ _ => [i, j, k]
  | .aug i _ _ => [i]
  | .ite _ a b => asgSs a ++ asgSs b
  | .whl _ b => asgSs b
  | .fr t _ _ b => tgSl t ++ asgSs b
  | .tryAs b _ i _ _ => i :: asgSs b
  | _ => []
def asgSs : List Cm → List Nat
  | [] => []
  | s :: r => asgS s ++ asgSs r
end
mutual
/-- the slot stands in it -/
def menC (i : Nat) : Cm → Bool
  | .asg _ e => men i e
  | .par2 _ _ a b => men i a || men i b
  | .par3 _ _ _ a b c => men i a || men i b || men i c
  | .sub o j v => men i o || men i j || men i v
  | .fld o _ v => men i o || men i v
  | .aug j _ e => decide (j = i) || men i e
  | .ex e => men i e
  | .ret e => men i e
  | .retn => false
  | .ite c a b => men i c || menCs i a || menCs i b
  | .whl c b => men i c || menCs i b
  | .fr _ _ ss b => mens i ss || menCs i b
  | .raise _ _ es => mens i es
  | .tryAs b _ _ _ _ => menCs i b
  | .pass => false
  | .brk => false
  | .cont => false
def menCs (i : Nat) : List Cm → Bool
  | [] => false
  | s :: r => menC i s || menCs i r
end
def cFor (g : Tg) (body : Ed → Ev → Prop) (D : Ed) : List T → Ev → Prop
  | [], ρ => D.nx ρ
  | t :: r, ρ => bindT g t ρ fun ρ1 => body { D with nx := cFor g body D r, ct := cFor g body D r, bk := D.nx } ρ1
def whlN (c : Ev → (Bool → Ev → Prop) → Prop) (body : Ed → Ev → Prop) (D : Ed) : Nat → Ev → Prop
  | 0, _ => False
  | n + 1, ρ => c ρ fun k ρ1 => if k = true then body { D with nx := whlN c body D n, ct := whlN c body D n, bk := D.nx } ρ1 else D.nx ρ1
/-- what was lent comes back -/
def wrapD (D : Ed) (as : List Ag) (ts us : List T) (dv : Bool) : Ed where
  nx := fun ρ => D.nx (back as ts us ρ)
  rt := fun r ρ => D.rt r (back as ts us ρ)
  xc := fun c t ρ => dv = false ∧ D.xc c t (back as ts us ρ)
/-- a lent slot is not stored -/
def keepA (sl : List Nat) : List Ag → List T → Bool
  | .v i :: as, t :: ts => (!(ow t) || !(sl.contains i)) && keepA sl as ts
  | .t _ :: as, _ :: ts => keepA sl as ts
  | _, _ => true
mutual
def cS (p : Px) (Φ : CF) (XI : Nat → Option (List Str)) : Cm → Ed → Ev → Prop
  | .asg g e, D, ρ => (c2 p Φ e).1 D.xc false ρ fun v ρ1 => bindT g v ρ1 D.nx
  | .par2 i j a b, D, ρ => (c2 p Φ a).1 D.xc false ρ fun ta ρ1 => (c2 p Φ b).1 D.xc false ρ1 fun tb ρ2 => D.nx ((ρ2.set i ta).set j tb)
  | .par3 i j k a b c, D, ρ => (c2 p Φ a).1 D.xc false ρ fun ta ρ1 => (c2 p Φ b).1 D.xc false ρ1 fun tb ρ2 => (c2 p Φ c).1 D.xc false ρ2 fun tc ρ3 => D.nx (((ρ3.set i ta).set j tb).set k tc)
  | .sub o i v, D, ρ => (c2 p Φ v).1 D.xc false ρ fun tv ρ1 => match isVarE o with
    | some j => (∃ t, ρ1[j]? = some t ∧ isUn t = false) ∧ (c2 p Φ i).1 D.xc false ρ1 fun ti ρ2 => ∃ t, ρ2[j]? = some t ∧ isUn t = false ∧ setT t ti tv fun t' => D.nx (ρ2.set j t')
    | none => ∃ ti, cq p i ρ1 = some ti ∧ ∃ t, cq p o ρ1 = some t ∧ setT t ti tv fun t' => ∃ ρ2, cput p o ρ1 t' = some ρ2 ∧ D.nx ρ2
  | .fld o f v, D, ρ => (c2 p Φ v).1 D.xc false ρ fun tv ρ1 => ∃ t, cq p o ρ1 = some t ∧ setFT p f tv t fun t' => ∃ ρ2, cput p o ρ1 t' = some ρ2 ∧ D.nx ρ2
  | .aug i op e, D, ρ => ∃ tx, ρ[i]? = some tx ∧ isUn tx = false ∧ ow tx = false ∧ (c2 p Φ e).1 D.xc false ρ fun t ρ1 => augT op tx t fun r => D.nx (ρ1.set i r)
  | .ex e, D, ρ => (c2 p Φ e).1 D.xc false ρ fun _ ρ1 => D.nx ρ1
  | .ret e, D, ρ => (c2 p Φ e).1 D.xc true ρ fun t ρ1 => D.rt t ρ1
  | .retn, D, ρ => D.rt .n ρ
  | .ite c a b, D, ρ => (c2 p Φ c).2 D.xc ρ fun k ρ1 => if k = true then cSs p Φ XI a D ρ1 else cSs p Φ XI b D ρ1
  | .whl c b, D, ρ => ∃ n, whlN ((c2 p Φ c).2 D.xc) (cSs p Φ XI b) D n ρ
  | .fr g k ss b, D, ρ0 => okSk k ss = true ∧ ∃ ρ, ρ = pre (fun j => menCs j b) ss ρ0 ∧ cAs p Φ ss D.xc ρ fun as ρ1 => ∃ ts ρ2 us, lend as ρ1 = some (ts, ρ2) ∧ (us = ts ∨ (dvar k ss ρ = false ∧ us = fzs ts)) ∧ isDct1 us = dvar k ss ρ ∧ keepA (tgSl g ++ asgSs b) as ts = true ∧ ∃ its, itemsT k us = some its ∧ ows its = false ∧
      cFor g (cSs p Φ XI b) (wrapD D as ts us (dvar k ss ρ)) its ρ2
  | .raise x f es, D, ρ => ∃ fs, XI f = some fs ∧ fs.length = es.length ∧ fs ≠ [] ∧ fs.length ≤ 900 ∧ p.exs.contains x = true ∧ (fs.all fun g => p.noat.contains (x, g)) = true ∧ cEs p Φ es D.xc false ρ fun ts ρ1 => D.xc x (.nd (.xd fs.reverse) false (fzs ts.reverse)) ρ1
  | .tryAs b x i w f, D, ρ => p.exs.contains x = true ∧ cSs p Φ XI b { D with xc := fun c t ρ' => p.exs.contains c = true ∧ if (c == x) = true then i < ρ'.length ∧ ∃ fs ts u, t = .nd (.xd fs) false ts ∧ (fs.zip ts).lookup f = some u ∧ ow u = false ∧ D.rt (.nd .lst true [.s w, u]) (ρ'.set i .un) else D.xc c t ρ' } ρ
  | .pass, D, ρ => D.nx ρ
  | .brk, D, ρ => D.bk ρ
  | .cont, D, ρ => D.ct ρ
def cSs (p : Px) (Φ : CF) (XI : Nat → Option (List Str)) : List Cm → Ed → Ev → Prop
  | [], D, ρ => D.nx ρ
  | s :: r, D, ρ => cS p Φ XI s { D with nx := cSs p Φ XI r D } ρ
end
section
variable (p : Px) (K : PySem.W.Frag) (Φs : Nat → Sp) (Φc : CF) (XI : Nat → Option (List Str))
/-- the defs of own errors set their fields -/
def XiOk : Prop := ∀ f fs, XI f = some fs → ∀ (x : Str) (a : Addr) (vs : List V) (H : Hp) (Post : V → Hp → Prop) (E : XK), p.exs.contains x = true → (fs.all fun g => p.noat.contains (x, g)) = true → vs.length = fs.length → fs.length ≤ 900 →
  H a = some (exo a (He.ga K x) none) → fs ≠ [] → (∀ dx, H dx = none → dx ≠ a → Post .non (upd (upd H dx (exd dx (fs.zip vs).reverse)) a (exo a (He.ga K x) (some dx)))) → Φs f (.ref a :: vs) H Post E
def SP (asg : List Nat) (c : Ed → Ev → Prop) (tt : WX → TS) : Prop := ∀ (F : Addr → Option HO) (R : Ow) (l0 : List (T × V)) (W : WX) (P : L2.St → Prop) (D : Ed) (Dl : Ends), (∀ σ i u, i ∈ asg → P σ → P (σ.set i u)) →
  (∀ c t ρ' σ' H' dd l1, D.xc c t ρ' → P σ' → In K F R H' ρ' σ' ((t, .ref dd) :: (l1 ++ l0)) → W (.ref (He.ga K c)) (some dd) σ' H') →
  (∀ ρ' σ' H', D.nx ρ' → P σ' → In K F R H' ρ' σ' l0 → Dl.nx σ' H') → (∀ t v ρ' σ' H', D.rt t ρ' → P σ' → In K F R H' ρ' σ' ((t, v) :: l0) → Dl.rt v H') →
  (∀ ρ' σ' H', D.bk ρ' → P σ' → In K F R H' ρ' σ' l0 → Dl.bk σ' H') → (∀ ρ' σ' H', D.ct ρ' → P σ' → In K F R H' ρ' σ' l0 → Dl.ct σ' H') →
  ∀ ρ σ H, c D ρ → P σ → In K F R H ρ σ l0 → tt W Dl σ H
end
section
variable {p : Px} {K : PySem.W.Frag} {Φs : Nat → Sp} {Φc : CF} {XI : Nat → Option (List Str)} {F : Addr → Option HO} {R : Ow} {H : Hp} {ρ : List T} {σ : L2.St} {l l' pk pk' : List (T × V)} {t u ta tb te : T} {v tv kv va vb ve : V} {X : CE0} {W : WX} {l0 l1 : List (T × V)} {e : Ex} {es : List Ex}
theorem for_run {its : List T} {J : It} {srcs : List (T × V)} (hS : Src K F R its J srcs) {g : Tg} {b : List Cm} (hb : SP K (asgSs b) (cSs p Φc XI b) (tSs K Φs b)) {D : Ed} {Dl : Ends} {P : L2.St → Prop} (hP : ∀ σ i u, i ∈ tgSl g ++ asgSs b → P σ → P (σ.set i u))
    (hX : ∀ c t ρ' σ' H' dd l1, D.xc c t ρ' → P σ' → In K F R H' ρ' σ' ((t, .ref dd) :: (l1 ++ (srcs ++ l0))) → W (.ref (He.ga K c)) (some dd) σ' H')
    (hn : ∀ ρ' σ' H', D.nx ρ' → P σ' → In K F R H' ρ' σ' (srcs ++ l0) → Dl.nx σ' H') (hr : ∀ t v ρ' σ' H', D.rt t ρ' → P σ' → In K F R H' ρ' σ' ((t, v) :: (srcs ++ l0)) → Dl.rt v H')
    (hc : cFor g (cSs p Φc XI b) D its ρ) (hp : P σ) (h : In K F R H ρ σ (srcs ++ l0)) :
    ∃ Wv : Nat → Nat → L2.St → Hp → Prop, (∃ m, Wv 0 m σ H) ∧ ∀ i m σ H, Wv i m σ H → (J.stop i H ∧ Dl.nx σ H) ∨ (J.go i H ∧ ∃ N : L2.St → Hp → Prop, (∀ σ' H', N σ' H' → ∃ m', m' < m ∧ Wv (i + 1) m' σ' H') ∧
      ∀ x H', J.yld i H x H' → tTg K g x σ H' fun σ2 H2 => tSs K Φs b W { Dl with nx := N, ct := N, bk := Dl.nx } σ2 H2) := by
  refine ⟨fun i m σ H => m = its.length - i ∧ i ≤ its.length ∧ P σ ∧ ∃ ρ', cFor g (cSs p Φc XI b) D (its.drop i) ρ' ∧ In K F R H ρ' σ (srcs ++ l0), ⟨its.length, rfl, Nat.zero_le _, hp, ρ, hc, h⟩, ?_⟩
  rintro i m σ1 H1 ⟨rfl, hi, hp1, ρ', hl, h2⟩
  obtain ⟨s1, s2⟩ := hS _ _ _ _ i h2
  by_cases e : i < its.length
  · obtain ⟨s3, s4⟩ := s1 e
    refine .inr ⟨s3, fun σ' H' => P σ' ∧ ∃ ρ', cFor g (cSs p Φc XI b) D (its.drop (i + 1)) ρ' ∧ In K F R H' ρ' σ' (srcs ++ l0), fun σ' H' ⟨x1, x2⟩ => ⟨its.length - (i + 1), by omega, rfl, by omega, x1, x2⟩, fun x H' hy => ?_⟩
    rw [drop_cons e] at hl
    have h3 := s4 its[i] x H' (List.getElem?_eq_getElem e) hy
    refine bind_ok (P := P) hl h3 (fun σ j u hj => hP σ j u (List.mem_append_left _ hj)) hp1 fun ρ1 σ2 hq hp2 h4 => ?_
    exact hb F R (srcs ++ l0) W P { D with nx := cFor g (cSs p Φc XI b) D (its.drop (i + 1)), ct := cFor g (cSs p Φc XI b) D (its.drop (i + 1)), bk := D.nx }
      { Dl with nx := fun σ' H' => P σ' ∧ ∃ ρ', cFor g (cSs p Φc XI b) D (its.drop (i + 1)) ρ' ∧ In K F R H' ρ' σ' (srcs ++ l0), ct := fun σ' H' => P σ' ∧ ∃ ρ', cFor g (cSs p Φc XI b) D (its.drop (i + 1)) ρ' ∧ In K F R H' ρ' σ' (srcs ++ l0), bk := Dl.nx } (fun σ j u hj => hP σ j u (List.mem_append_right _ hj)) hX (fun ρ' σ' H' hq hp h => ⟨hp, ρ', hq, h⟩) hr (fun ρ' σ' H' hq hp h => hn ρ' σ' H' hq hp h) (fun ρ' σ' H' hq hp h => ⟨hp, ρ', hq, h⟩) ρ1 σ2 H' hq hp2 h4
  · have : i = its.length := by omega
    subst this
    rw [List.drop_length] at hl
    exact .inl ⟨s2 (Nat.le_refl _), hn _ _ _ hl hp1 h2⟩
/-- a lent slot holds what was lent -/
def AgB (σ : L2.St) : List Ag → List T → List V → Prop
  | .v i :: as, t :: ts, v :: vs => (ow t = true → σ[i]? = some (some v)) ∧ AgB σ as ts vs
  | .t _ :: as, _ :: ts, _ :: vs => AgB σ as ts vs
  | _, _, _ => True
theorem agB_of : ∀ {as : List Ag} {ts : List T} {vs : List V}, ArgOk σ as vs → AgB σ as ts vs
  | [], _, _, _ => by unfold AgB; trivial
  | .v i :: as, [], _, _ => by unfold AgB; trivial
  | .t _ :: as, [], _, _ => by unfold AgB; trivial
  | .v i :: as, t :: ts, [], h => h.elim
  | .t _ :: as, t :: ts, [], h => h.elim
  | .v i :: as, t :: ts, v :: vs, h => ⟨fun _ => h.1, agB_of h.2⟩
  | .t _ :: as, t :: ts, v :: vs, h => agB_of (as := as) (vs := vs) h
theorem agB_set {sl : List Nat} {i : Nat} {u : Option V} (hi : i ∈ sl) : ∀ {as : List Ag} {ts : List T} {vs : List V}, keepA sl as ts = true → AgB σ as ts vs → AgB (σ.set i u) as ts vs
  | [], _, _, _, _ => by unfold AgB; trivial
  | .v j :: as, [], _, _, _ => by unfold AgB; trivial
  | .t _ :: as, [], _, _, _ => by unfold AgB; trivial
  | .v j :: as, t :: ts, [], _, _ => by unfold AgB; trivial
  | .t _ :: as, t :: ts, [], _, _ => by unfold AgB; trivial
  | .v j :: as, t :: ts, v :: vs, hk, h => by
    obtain ⟨h1, h2⟩ := Bool.and_eq_true_iff.mp (show ((!(ow t) || !(sl.contains j)) && keepA sl as ts) = true from hk)
    refine ⟨fun ho => ?_, agB_set hi h2 h.2⟩
    have ne : i ≠ j := fun e => by
      subst e
      rw [ho] at h1
      simp [hi] at h1
    rw [List.getElem?_set_ne ne]
    exact h.1 ho
  | .t _ :: as, t :: ts, v :: vs, hk, h => agB_set (as := as) hi hk h
theorem back_ok2 : ∀ {as : List Ag} {vs : List V} {ρ : Ev} {ts os : List T} {l : List (T × V)}, AgB σ as ts vs → as.length = vs.length → ts.length = vs.length → os.length = vs.length → In K F R H ρ σ (os.zip vs ++ l) → In K F R H (back as ts os ρ) σ l
  | [], [], ρ, ts, os, l, _, _, h1, h2, h => by
    have e1 : ts = [] := List.length_eq_zero_iff.mp h1
    have e2 : os = [] := List.length_eq_zero_iff.mp h2
    subst e1 e2
    exact h
  | [], _ :: _, _, _, _, _, _, h, _, _, _ => by cases h
  | .v _ :: _, [], _, _, _, _, _, h, _, _, _ => by cases h
  | .t _ :: _, [], _, _, _, _, _, h, _, _, _ => by cases h
  | .t t :: as, v :: vs, ρ, [], _, l, ha, _, h1, h2, h => by cases h1
  | .t t :: as, v :: vs, ρ, _ :: _, [], l, ha, _, h1, h2, h => by cases h2
  | .t t :: as, v :: vs, ρ, t0 :: ts, o :: os, l, ha, h0, h1, h2, h => back_ok2 (as := as) ha (by simpa using h0) (by simpa using h1) (by simpa using h2) (in_drop h)
  | .v _ :: as, v :: vs, ρ, [], _, l, ha, _, h1, h2, h => by cases h1
  | .v _ :: as, v :: vs, ρ, _ :: _, [], l, ha, _, h1, h2, h => by cases h2
  | .v i :: as, v :: vs, ρ, t0 :: ts, o :: os, l, ha, h0, h1, h2, h => by
    unfold back
    refine back_ok2 (as := as) ha.2 (by simpa using h0) (by simpa using h1) (by simpa using h2) ?_
    by_cases ho : ow t0 = true
    · rw [if_pos ho]
      exact in_put' (ha.1 ho) h
    · rw [if_neg ho]
      exact in_drop h
end
end PL
set_option Elab.async false
set_option linter.all false
set_option maxRecDepth 100000
set_option maxHeartbeats 16000000
namespace PL
open PySem PySem.Spec PyProof.Rows L2
section
variable {p : Px} {K : PySem.W.Frag} {Φs : Nat → Sp} {Φc : CF} {XI : Nat → Option (List Str)} {F : Addr → Option HO} {R : Ow} {H : Hp} {ρ : List T} {σ : L2.St} {l l' pk pk' : List (T × V)} {t u ta tb te : T} {v tv kv va vb ve : V} {X : CE0} {W : WX} {l0 l1 : List (T × V)} {e : Ex} {es : List Ex}
theorem xk {D : Ed} {P : L2.St → Prop} (hX : ∀ c t ρ' σ' H' dd l1, D.xc c t ρ' → P σ' → In K F R H' ρ' σ' ((t, .ref dd) :: (l1 ++ l0)) → W (.ref (He.ga K c)) (some dd) σ' H') (hp : P σ) : XOk2 K F R σ l0 D.xc W :=
  fun c t ρ' H' dd l1 hx hi => hX c t ρ' σ H' dd l1 hx hp hi
theorem sp_asg (hE : SE p K Φs Φc e) {g : Tg} : SP K (asgS (.asg g e)) (cS p Φc XI (.asg g e)) (tS K Φs (.asg g e)) := by
  intro F R l0 W P D Dl hP hX hn hr hb hct ρ σ H hc hp h
  have hc : (c2 p Φc e).1 D.xc false ρ fun v ρ1 => bindT g v ρ1 D.nx := hc
  refine hE F R σ l0 D.xc W (xk hX hp) false ρ [] H _ _ hc h fun v x ρ1 H1 hq h1 => ?_
  exact bind_ok (P := P) hq h1 hP hp fun ρ' σ' hq hp' h2 => hn ρ' σ' H1 hq hp' h2
theorem sp_par2 {a b : Ex} (ha : SE p K Φs Φc a) (hb' : SE p K Φs Φc b) {i j : Nat} : SP K (asgS (.par2 i j a b)) (cS p Φc XI (.par2 i j a b)) (tS K Φs (.par2 i j a b)) := by
  intro F R l0 W P D Dl hP hX hn hr hb hct ρ σ H hc hp h
  have hc : (c2 p Φc a).1 D.xc false ρ fun ta ρ1 => (c2 p Φc b).1 D.xc false ρ1 fun tb ρ2 => D.nx ((ρ2.set i ta).set j tb) := hc
  show (t2 K Φs a W).1 σ H fun x H1 => (t2 K Φs b W).1 σ H1 fun y H2 => ∃ v w, [x, y] = [v, w] ∧ Dl.nx ((σ.set i (some v)).set j (some w)) H2
  refine ha F R σ l0 D.xc W (xk hX hp) false ρ [] H _ _ hc h fun ta va ρ1 H1 hc h1 => ?_
  refine hb' F R σ l0 D.xc W (xk hX hp) false ρ1 [(ta, va)] H1 _ _ hc h1 fun tb vb ρ2 H2 hq h2 => ⟨va, vb, rfl, ?_⟩
  exact hn _ _ _ hq (hP _ _ _ (by simp [asgS]) (hP _ _ _ (by simp [asgS]) hp)) (in_put j (in_put i (in_perm (List.Perm.swap _ _ _) h2)))
theorem sp_par3 {a b c : Ex} (ha : SE p K Φs Φc a) (hb' : SE p K Φs Φc b) (hcc : SE p K Φs Φc c) {i j k : Nat} : SP K (asgS (.par3 i j k a b c)) (cS p Φc XI (.par3 i j k a b c)) (tS K Φs (.par3 i j k a b c)) := by
  intro F R l0 W P D Dl hP hX hn hr hb hct ρ σ H hc hp h
  have hc : (c2 p Φc a).1 D.xc false ρ fun ta ρ1 => (c2 p Φc b).1 D.xc false ρ1 fun tb ρ2 => (c2 p Φc c).1 D.xc false ρ2 fun tc ρ3 => D.nx (((ρ3.set i ta).set j tb).set k tc) := hc
  show (t2 K Φs a W).1 σ H fun x H1 => (t2 K Φs b W).1 σ H1 fun y H2 => (t2 K Φs c W).1 σ H2 fun z H3 => ∃ v w u, [x, y, z] = [v, w, u] ∧ Dl.nx (((σ.set i (some v)).set j (some w)).set k (some u)) H3
  refine ha F R σ l0 D.xc W (xk hX hp) false ρ [] H _ _ hc h fun ta va ρ1 H1 hc h1 => ?_
  refine hb' F R σ l0 D.xc W (xk hX hp) false ρ1 [(ta, va)] H1 _ _ hc h1 fun tb vb ρ2 H2 hc h2 => ?_
  refine hcc F R σ l0 D.xc W (xk hX hp) false ρ2 [(tb, vb), (ta, va)] H2 _ _ hc h2 fun tc vc ρ3 H3 hq h3 => ⟨va, vb, vc, rfl, ?_⟩
  refine hn _ _ _ hq (hP _ _ _ (by simp [asgS]) (hP _ _ _ (by simp [asgS]) (hP _ _ _ (by simp [asgS]) hp))) (in_put k (in_put j (in_put i (in_perm ?_ h3))))
  exact ((List.Perm.swap _ _ _).trans (List.Perm.cons _ (List.Perm.swap _ _ _))).trans (List.Perm.swap _ _ _)
theorem key_fact {ti : T} {vi : V} (h : InP K F R H ρ σ l ((ti, vi) :: pk)) : ∀ key, toKey ti = some key → vi = kV key := fun key hk => toKey_ok hk h
theorem sp_sub (kn : Kn p K) {o i v : Ex} (hv' : SE p K Φs Φc v) (hi' : SE p K Φs Φc i) : SP K (asgS (.sub o i v)) (cS p Φc XI (.sub o i v)) (tS K Φs (.sub o i v)) := by
  intro F R l0 W P D Dl hP hX hn hr hb hct ρ σ H hc hp h
  have hc : (c2 p Φc v).1 D.xc false ρ fun tv ρ1 => match isVarE o with
    | some j => (∃ t, ρ1[j]? = some t ∧ isUn t = false) ∧ (c2 p Φc i).1 D.xc false ρ1 fun ti ρ2 => ∃ t, ρ2[j]? = some t ∧ isUn t = false ∧ setT t ti tv fun t' => D.nx (ρ2.set j t')
    | none => ∃ ti, cq p i ρ1 = some ti ∧ ∃ t, cq p o ρ1 = some t ∧ setT t ti tv fun t' => ∃ ρ2, cput p o ρ1 t' = some ρ2 ∧ D.nx ρ2 := hc
  show (t2 K Φs v W).1 σ H fun x H1 => (t2 K Φs o W).1 σ H1 fun y H2 => (t2 K Φs i W).1 σ H2 fun z H3 => rSet y z x H3 fun H4 => Dl.nx σ H4
  refine hv' F R σ l0 D.xc W (xk hX hp) false ρ [] H _ _ hc h fun tv vv ρ1 H1 hc2 h1 => ?_
  split at hc2
  · rename_i j hj
    have := isVarE_of hj
    subst this
    obtain ⟨⟨t, ht, hu⟩, hc3⟩ := hc2
    refine var_ok ht hu h1 fun v0 hv0 _ => ?_
    refine hi' F R σ l0 D.xc W (xk hX hp) false ρ1 [(tv, vv)] H1 _ _ hc3 h1 fun ti vi ρ2 H2 ⟨t, ht, hu, hs⟩ h2 => ?_
    obtain ⟨v1, hv1, h3⟩ := in_take ht hu (in_drop h2)
    rw [hv0] at hv1
    cases hv1
    refine set_ok hs (key_fact (inP_keep (inP_of h2))) h3 fun t' H' hq h4 => ?_
    have h5 := in_put' hv0 h4
    rw [List.set_set] at h5
    exact hn _ _ _ hq hp h5
  · obtain ⟨ti, hti, t, ht, hs⟩ := hc2
    obtain ⟨_, ρ2, hp2, _⟩ := set_ex hs
    obtain ⟨v0, _, _, hv0, _, _⟩ := pl_open o ht hp2 h1
    refine pl_read kn o ht hv0 (inP_of h1) fun H2 le h2 => q_ok kn i hti h2 fun vi H3 _ le2 h3 => ?_
    obtain ⟨v1, ρ0, lx, hv1, h4, close⟩ := pl_open o ht hp2 (inP_in h3)
    have e1 := vAt_le le2 (vAt_le le hv0)
    rw [hv1] at e1
    cases e1
    have h5 : In K F R H3 ρ0 σ ((t, v0) :: (tv, vv) :: (lx ++ l0)) := in_perm (List.Perm.cons _ List.perm_middle) h4
    refine set_ok hs (key_fact h3) h5 fun t' H' ⟨ρ', hp', hq⟩ h6 => ?_
    exact hn _ _ _ hq hp (close t' ρ' hp' H' l0 h6)
theorem sp_fld (kn : Kn p K) {o v : Ex} {f : Str} (hv' : SE p K Φs Φc v) : SP K (asgS (.fld o f v)) (cS p Φc XI (.fld o f v)) (tS K Φs (.fld o f v)) := by
  intro F R l0 W P D Dl hP hX hn hr hb hct ρ σ H hc hp h
  have hc : (c2 p Φc v).1 D.xc false ρ fun tv ρ1 => ∃ t, cq p o ρ1 = some t ∧ setFT p f tv t fun t' => ∃ ρ2, cput p o ρ1 t' = some ρ2 ∧ D.nx ρ2 := hc
  refine .inl ?_
  refine hv' F R σ l0 D.xc W (xk hX hp) false ρ [] H _ _ hc h fun tv vv ρ1 H1 ⟨t, ht, hs⟩ h1 => ?_
  obtain ⟨_, ρ2, hp2, _⟩ := setF_ex hs
  obtain ⟨v0, _, _, hv0, _, _⟩ := pl_open o ht hp2 h1
  refine pl_read kn o ht hv0 (inP_of h1) fun H2 le h2 => ?_
  obtain ⟨v1, ρ0, lx, hv1, h4, close⟩ := pl_open o ht hp2 (inP_in h2)
  have e1 := vAt_le le hv0
  rw [hv1] at e1
  cases e1
  have h5 : In K F R H2 ρ0 σ ((t, v0) :: (tv, vv) :: (lx ++ l0)) := in_perm (List.Perm.cons _ List.perm_middle) h4
  exact setF_ok (Post := fun H' => Dl.nx σ H') kn hs h5 fun t' H' ⟨ρ', hp', hq⟩ h6 => hn _ _ _ hq hp (close t' ρ' hp' H' l0 h6)
theorem sp_aug {i : Nat} {op : Operator} (hE : SE p K Φs Φc e) : SP K (asgS (.aug i op e)) (cS p Φc XI (.aug i op e)) (tS K Φs (.aug i op e)) := by
  intro F R l0 W P D Dl hP hX hn hr hb hct ρ σ H hc hp h
  have hc : ∃ tx, ρ[i]? = some tx ∧ isUn tx = false ∧ ow tx = false ∧ (c2 p Φc e).1 D.xc false ρ fun t ρ1 => augT op tx t fun r => D.nx (ρ1.set i r) := hc
  obtain ⟨tx, hx, hu, ho, hc⟩ := hc
  obtain ⟨x, hvx, h1⟩ := in_get hx hu ho h
  refine ⟨x, hvx, hE F R σ l0 D.xc W (xk hX hp) false ρ [(tx, x)] H _ _ hc h1 fun t v ρ1 H1 hq h2 => ?_⟩
  unfold augT at hq
  have h3 := in_two h2
  split at hq
  · have e1 := inP_lf (inP_mem List.mem_cons_self h3)
    have e2 := inP_lf (inP_mem (List.mem_cons_of_mem _ List.mem_cons_self) h3)
    subst e1 e2
    exact .inl ⟨_, _, rfl, rfl, hn _ _ _ hq (hP _ _ _ (by simp [asgS]) hp) (in_put i (in_lf _ (inP_in h3)))⟩
  · have e1 := inP_lf (inP_mem List.mem_cons_self h3)
    have e2 := inP_lf (inP_mem (List.mem_cons_of_mem _ List.mem_cons_self) h3)
    subst e1 e2
    exact .inr ⟨_, _, rfl, rfl, hq.1, hn _ _ _ hq.2 (hP _ _ _ (by simp [asgS]) hp) (in_put i (in_lf _ (inP_in h3)))⟩
  · have e1 := inP_lf (inP_mem List.mem_cons_self h3)
    have e2 := inP_lf (inP_mem (List.mem_cons_of_mem _ List.mem_cons_self) h3)
    subst e1 e2
    exact ⟨_, _, rfl, rfl, hn _ _ _ hq (hP _ _ _ (by simp [asgS]) hp) (in_put i (in_lf _ (inP_in h3)))⟩
  · exact hq.elim
theorem sp_ite {c : Ex} {a b : List Cm} (hcc : ST p K Φs Φc c) (ha : SP K (asgSs a) (cSs p Φc XI a) (tSs K Φs a)) (hb' : SP K (asgSs b) (cSs p Φc XI b) (tSs K Φs b)) : SP K (asgS (.ite c a b)) (cS p Φc XI (.ite c a b)) (tS K Φs (.ite c a b)) := by
  intro F R l0 W P D Dl hP hX hn hr hb hct ρ σ H hc hp h
  have hc : (c2 p Φc c).2 D.xc ρ fun k ρ1 => if k = true then cSs p Φc XI a D ρ1 else cSs p Φc XI b D ρ1 := hc
  refine hcc F R σ l0 D.xc W (xk hX hp) ρ [] H _ _ hc h fun k ρ1 H1 hq h1 => ?_
  cases k with
  | true =>
    rw [if_pos rfl] at hq ⊢
    exact ha F R l0 W P D Dl (fun σ i u hi => hP σ i u (by simp [asgS, hi])) hX hn hr hb hct ρ1 σ H1 hq hp h1
  | false =>
    rw [if_neg (by decide)] at hq ⊢
    exact hb' F R l0 W P D Dl (fun σ i u hi => hP σ i u (by simp [asgS, hi])) hX hn hr hb hct ρ1 σ H1 hq hp h1
theorem sp_whl {c : Ex} {b : List Cm} (hcc : ST p K Φs Φc c) (hb' : SP K (asgSs b) (cSs p Φc XI b) (tSs K Φs b)) : SP K (asgS (.whl c b)) (cS p Φc XI (.whl c b)) (tS K Φs (.whl c b)) := by
  intro F R l0 W P D Dl hP hX hn hr hb hct ρ σ H hc hp h
  have hc : ∃ n, whlN ((c2 p Φc c).2 D.xc) (cSs p Φc XI b) D n ρ := hc
  obtain ⟨n, hc⟩ := hc
  refine ⟨fun m σ H => P σ ∧ ∃ ρ, whlN ((c2 p Φc c).2 D.xc) (cSs p Φc XI b) D m ρ ∧ In K F R H ρ σ l0, ⟨n, hp, ρ, hc, h⟩, ?_⟩
  rintro m σ1 H1 ⟨hp1, ρ1, hw, h1⟩
  cases m with
  | zero => exact hw.elim
  | succ m =>
    have hw : (c2 p Φc c).2 D.xc ρ1 fun k ρ1 => if k = true then cSs p Φc XI b { D with nx := whlN ((c2 p Φc c).2 D.xc) (cSs p Φc XI b) D m, ct := whlN ((c2 p Φc c).2 D.xc) (cSs p Φc XI b) D m, bk := D.nx } ρ1 else D.nx ρ1 := hw
    refine hcc F R σ1 l0 D.xc W (xk hX hp1) ρ1 [] H1 _ _ hw h1 fun k ρ2 H2 hq h2 => ?_
    cases k with
    | true =>
      rw [if_pos rfl] at hq ⊢
      refine ⟨fun σ' H' => P σ' ∧ ∃ ρ, whlN ((c2 p Φc c).2 D.xc) (cSs p Φc XI b) D m ρ ∧ In K F R H' ρ σ' l0, fun σ' H' hh => ⟨m, Nat.lt_succ_self _, hh⟩, ?_⟩
      exact hb' F R l0 W P { D with nx := whlN ((c2 p Φc c).2 D.xc) (cSs p Φc XI b) D m, ct := whlN ((c2 p Φc c).2 D.xc) (cSs p Φc XI b) D m, bk := D.nx }
        { Dl with nx := fun σ' H' => P σ' ∧ ∃ ρ, whlN ((c2 p Φc c).2 D.xc) (cSs p Φc XI b) D m ρ ∧ In K F R H' ρ σ' l0, ct := fun σ' H' => P σ' ∧ ∃ ρ, whlN ((c2 p Φc c).2 D.xc) (cSs p Φc XI b) D m ρ ∧ In K F R H' ρ σ' l0, bk := Dl.nx }
        (fun σ i u hi => hP σ i u hi) hX (fun ρ' σ' H' hq hp h => ⟨hp, ρ', hq, h⟩) hr (fun ρ' σ' H' hq hp h => hn _ _ _ hq hp h) (fun ρ' σ' H' hq hp h => ⟨hp, ρ', hq, h⟩) ρ2 σ1 H2 hq hp1 h2
    | false =>
      rw [if_neg (by decide)] at hq ⊢
      exact hn _ _ _ hq hp1 h2
theorem sp_fr {g : Tg} {k : Sk} {ss : List Ex} {b : List Cm} (hss : ∀ e ∈ ss, SE p K Φs Φc e) (hb' : SP K (asgSs b) (cSs p Φc XI b) (tSs K Φs b)) : SP K (asgS (.fr g k ss b)) (cS p Φc XI (.fr g k ss b)) (tS K Φs (.fr g k ss b)) := by
  intro F R l0 W P D Dl hP hX hn hr hb hct ρ0 σ H hc hp h
  obtain ⟨hok, ρ, eρ, hc⟩ := hc
  have h : In K F R H ρ σ l0 := by
    rw [eρ]
    exact in_pre h
  clear eρ
  have hc : cAs p Φc ss D.xc ρ fun as ρ1 => ∃ ts ρ2 us, lend as ρ1 = some (ts, ρ2) ∧ (us = ts ∨ (dvar k ss ρ = false ∧ us = fzs ts)) ∧ isDct1 us = dvar k ss ρ ∧ keepA (tgSl g ++ asgSs b) as ts = true ∧ ∃ its, itemsT k us = some its ∧ ows its = false ∧
      cFor g (cSs p Φc XI b) (wrapD D as ts us (dvar k ss ρ)) its ρ2 := hc
  cases hd : dvar k ss ρ with
  | false =>
    rw [hd] at hc
    refine .inl ?_
    show tI K k (tL K Φs ss W) σ H _
    refine tI_of hok (as_ok hss (xk hX hp) (l1 := []) hc h fun as vs ρ1 H1 ⟨ts, ρ2, us, hl, hus, hd1, hk, its, hi, ho, hloop⟩ _ ha h1 => ?_)
    obtain ⟨h2, hl2⟩ := lend_ok ha hl h1
    have hlen := ha.len
    have hu2 := us_len hus hl2
    have h2 := in_us hus h2
    refine src_fin hi ho hd1 hu2 h2 fun J hS => ?_
    refine for_run (P := fun σ => P σ ∧ AgB σ as ts vs) (Dl := Dl) hS hb' (fun σ i u hi hh => ⟨hP σ i u hi hh.1, agB_set hi hk hh.2⟩) (fun c t ρ' σ' H' dd l1 hx hh h3 => ?_) (fun ρ' σ' H' hq hh h3 => ?_) (fun t v ρ' σ' H' hq hh h3 => ?_) hloop ⟨hp, agB_of ha⟩ h2
    · refine hX c t _ σ' H' dd l1 hx.2 hh.1 (back_ok2 (l := (t, .ref dd) :: (l1 ++ l0)) hh.2 hlen hl2 hu2 ?_)
      refine in_perm ?_ h3
      refine (List.Perm.cons _ (perm3 _ _ _)).trans List.perm_middle.symm
    · exact hn _ _ _ hq hh.1 (back_ok2 hh.2 hlen hl2 hu2 h3)
    · exact hr t v _ _ _ hq hh.1 (back_ok2 (l := (t, v) :: l0) hh.2 hlen hl2 hu2 (in_perm List.perm_middle.symm h3))
  | true =>
    rw [hd] at hc
    obtain ⟨j, t, rfl, rfl, ht, hdt⟩ := dvar_of hd
    have hc : (∃ t, ρ[j]? = some t ∧ isUn t = false) ∧ ∃ ts ρ2 us, lend [.v j] ρ = some (ts, ρ2) ∧ (us = ts ∨ (true = false ∧ us = fzs ts)) ∧ isDct1 us = true ∧ keepA (tgSl g ++ asgSs b) [.v j] ts = true ∧ ∃ its, itemsT .seq us = some its ∧ ows its = false ∧
      cFor g (cSs p Φc XI b) (wrapD D [.v j] ts us true) its ρ2 := hc
    obtain ⟨_, ts, ρ2, us, hl, hus, _, hk, its, hi, ho, hloop⟩ := hc
    have hus : us = ts := hus.resolve_right fun h => Bool.noConfusion h.1
    subst hus
    obtain ⟨rfl, hu⟩ := lend_var ht hl
    obtain ⟨v, hv, hPk⟩ := inP_env ht hu (inP_of h)
    obtain ⟨ks, o, kcs, rfl⟩ := isDct_of hdt
    obtain ⟨d, _, _, rfl, _⟩ := inP_nd hPk
    have ha : ArgOk σ [.v j] [V.ref d] := ⟨hv, trivial⟩
    obtain ⟨h2, hl2⟩ := lend_ok ha hl (show In K F R H ρ σ (tmps [.v j] [V.ref d] ++ l0) from h)
    cases hi
    rcases dct_src h2 with ⟨od, kvs, F', e1, h5, hS, ret⟩ | ⟨kvs, e1, lk⟩
    · refine .inl ?_
      show tI K .seq (tL K Φs [.var j] W) σ H _
      refine ⟨_, hv, .inr (.inr (.inr ⟨d, od, kvs, rfl, e1, ?_⟩))⟩
      refine for_run (P := fun σ => P σ ∧ AgB σ [.v j] [.nd (.dct ks) o kcs] [V.ref d]) (Dl := Dl) (l0 := l0) hS hb' (fun σ i u hi hh => ⟨hP σ i u hi hh.1, agB_set hi hk hh.2⟩) (fun c t ρ' σ' H' dd l1 hx hh h3 => ?_) (fun ρ' σ' H' hq hh h3 => ?_) (fun t v ρ' σ' H' hq hh h3 => ?_) hloop ⟨hp, agB_of ha⟩ h5
      · cases hx.1
      · exact hn _ _ _ hq hh.1 (back_ok2 (os := [.nd (.dct ks) o kcs]) hh.2 rfl rfl rfl (ret _ _ _ _ h3))
      · exact hr t v _ _ _ hq hh.1 (back_ok2 (os := [.nd (.dct ks) o kcs]) (l := (t, v) :: l0) hh.2 rfl rfl rfl (in_perm List.perm_middle.symm (ret _ _ _ _ h3)))
    · refine .inr ⟨d, _, e1, trivial, fun od => ?_⟩
      obtain ⟨F', srcs', h5, hS, ret⟩ := lk od
      show tI K .seq (tL K Φs [.var j] W) σ _ _
      refine ⟨_, hv, .inr (.inr (.inr ⟨d, od, kvs, rfl, upd_same, ?_⟩))⟩
      refine for_run (P := fun σ => P σ ∧ AgB σ [.v j] [.nd (.dct ks) o kcs] [V.ref d])
        (Dl := ⟨fun σ' H' => H' d = some (.frz od (.dK kvs)) ∧ Dl.nx σ' (upd H' d (.dK kvs)), fun v H' => H' d = some (.frz od (.dK kvs)) ∧ Dl.rt v (upd H' d (.dK kvs)), fun σ' H' => H' d = some (.frz od (.dK kvs)) ∧ Dl.bk σ' (upd H' d (.dK kvs)), fun σ' H' => H' d = some (.frz od (.dK kvs)) ∧ Dl.ct σ' (upd H' d (.dK kvs))⟩) (l0 := l0) hS hb' (fun σ i u hi hh => ⟨hP σ i u hi hh.1, agB_set hi hk hh.2⟩) (fun c t ρ' σ' H' dd l1 hx hh h3 => ?_) (fun ρ' σ' H' hq hh h3 => ?_) (fun t v ρ' σ' H' hq hh h3 => ?_) hloop ⟨hp, agB_of ha⟩ h5
      · cases hx.1
      · obtain ⟨e2, h7⟩ := ret _ _ _ _ h3
        exact ⟨e2, hn _ _ _ hq hh.1 (back_ok2 (os := [.nd (.dct ks) o kcs]) hh.2 rfl rfl rfl h7)⟩
      · obtain ⟨e2, h7⟩ := ret _ _ _ ((t, v) :: l0) (in_perm List.perm_middle.symm h3)
        exact ⟨e2, hr t v _ _ _ hq hh.1 (back_ok2 (os := [.nd (.dct ks) o kcs]) (l := (t, v) :: l0) hh.2 rfl rfl rfl h7)⟩
end
end PL
set_option Elab.async false
set_option linter.all false
set_option maxRecDepth 100000
set_option maxHeartbeats 16000000
namespace PL
open PySem PySem.Spec PyProof.Rows L2
section
variable {p : Px} {K : PySem.W.Frag} {Φs : Nat → Sp} {Φc : CF} {XI : Nat → Option (List Str)} {F : Addr → Option HO} {R : Ow} {H : Hp} {ρ : List T} {σ : L2.St} {l l' pk pk' : List (T × V)} {t u ta tb te : T} {v tv kv va vb ve : V} {X : CE0} {W : WX} {l0 l1 : List (T × V)} {e : Ex} {es : List Ex}
theorem fzs_map : ∀ {ts : List T}, fzs ts = ts.map fz
  | [] => rfl
  | t :: ts => by
    show fz t :: fzs ts = _
    rw [fzs_map] <;> rfl
theorem zip_rev {α β : Type} {as : List α} {bs : List β} (h : as.length = bs.length) : as.reverse.zip bs.reverse = (as.zip bs).reverse := by
  unfold List.zip
  rw [List.reverse_zipWith h]
theorem sp_raise (hXI : XiOk p K Φs XI) {x : Str} {f : Nat} {es : List Ex} (hE : ∀ e ∈ es, SE p K Φs Φc e) : SP K (asgS (.raise x f es)) (cS p Φc XI (.raise x f es)) (tS K Φs (.raise x f es)) := by
  intro F R l0 W P D Dl hP hX hn hr hb hct ρ σ H hc hp h
  have hc : ∃ fs, XI f = some fs ∧ fs.length = es.length ∧ fs ≠ [] ∧ fs.length ≤ 900 ∧ p.exs.contains x = true ∧ (fs.all fun g => p.noat.contains (x, g)) = true ∧ cEs p Φc es D.xc false ρ fun ts ρ1 => D.xc x (.nd (.xd fs.reverse) false (fzs ts.reverse)) ρ1 := hc
  obtain ⟨fs, h1, h2, h3, h4, h5, h6, hc⟩ := hc
  show tAof (tL K Φs es W) σ H fun vs H1 => vs.length ≤ 1000 ∧ ∀ a, H1 a = none → Φs f (.ref a :: (vs ++ [])) (upd H1 a (exo a (He.ga K x) none))
    (fun v H2 => v = .non ∧ ∃ (d : Addr) (gs : List (Str × V)), H2 a = some (exo a (He.ga K x) (some d)) ∧ H2 d = some (exd d gs) ∧ H1 d = none ∧ W (.ref (He.ga K x)) (some d) σ (upd (del H2 a) d (.xd gs))) (fun _ _ _ => False)
  refine es_ok hE (xk hX hp) (l1 := []) hc h fun ts vs ρ1 H1 hq e1 e2 i1 => ⟨by omega, fun a ha => ?_⟩
  rw [List.append_nil]
  refine hXI f fs h1 x a vs _ _ _ h5 h6 (by omega) h4 upd_same h3 fun dx hdx hne => ⟨rfl, dx, _, upd_same, by rw [upd_ne hne, upd_same], ?_, ?_⟩
  · rw [upd_ne hne] at hdx
    exact hdx
  · have hd1 : H1 dx = none := by rw [upd_ne hne] at hdx; exact hdx
    have eH : upd (del (upd (upd (upd H1 a (exo a (He.ga K x) none)) dx (exd dx (fs.zip vs).reverse)) a (exo a (He.ga K x) (some dx))) a) dx (.xd (fs.zip vs).reverse) = upd H1 dx (.xd (fs.zip vs).reverse) := by
      funext b
      by_cases q : b = dx
      · subst q; rw [upd_same, upd_same]
      · rw [upd_ne q, upd_ne q]
        unfold del
        by_cases q2 : b = a
        · subst q2; rw [if_pos rfl, ha]
        · rw [if_neg q2, upd_ne q2, upd_ne q, upd_ne q2]
    rw [eH]
    have i2 : In K F R H1 ρ1 σ ((ts.zip vs).reverse ++ l0) := in_perm ((List.reverse_perm _).symm.append_right _) i1
    have i3 := in_fz (in_new (k := .xd fs.reverse) (w := .xd (fs.zip vs).reverse) hd1 (by
      refine ⟨by simp; omega, ?_⟩
      rw [List.map_reverse, zip_snd e2]
      rw [zip_rev (by omega)]) i2)
    have e3 : fz (.nd (.xd fs.reverse) true ((ts.zip vs).reverse.map (·.1))) = .nd (.xd fs.reverse) false (fzs ts.reverse) := by
      rw [List.map_reverse, zip_fst e2]
      unfold fz
      rw [if_pos rfl]
    rw [e3] at i3
    exact hX x _ ρ1 σ _ dx [] hq hp i3
theorem sp_try (kn : Kn p K) {x : Str} {i : Nat} {w f : Str} {b : List Cm} (hb' : SP K (asgSs b) (cSs p Φc XI b) (tSs K Φs b)) : SP K (asgS (.tryAs b x i w f)) (cS p Φc XI (.tryAs b x i w f)) (tS K Φs (.tryAs b x i w f)) := by
  intro F R l0 W P D Dl hP hX hn hr hb hct ρ σ H hc hp h
  have hc : p.exs.contains x = true ∧ cSs p Φc XI b { D with xc := fun c t ρ' => p.exs.contains c = true ∧ if (c == x) = true then i < ρ'.length ∧ ∃ fs ts u, t = .nd (.xd fs) false ts ∧ (fs.zip ts).lookup f = some u ∧ ow u = false ∧ D.rt (.nd .lst true [.s w, u]) (ρ'.set i .un) else D.xc c t ρ' } ρ := hc
  obtain ⟨hx, hc⟩ := hc
  refine hb' F R l0 (wAs K (.ref (He.ga K x)) i (tSuite K x i w f) W Dl) P { D with xc := fun c t ρ' => p.exs.contains c = true ∧ if (c == x) = true then i < ρ'.length ∧ ∃ fs ts u, t = .nd (.xd fs) false ts ∧ (fs.zip ts).lookup f = some u ∧ ow u = false ∧ D.rt (.nd .lst true [.s w, u]) (ρ'.set i .un) else D.xc c t ρ' } Dl
    (fun σ j u hj => hP σ j u (by simp [asgS, hj])) (fun c t ρ' σ' H' dd l1 hxc hp' h1 => ?_) hn hr hb hct ρ σ H hc hp h
  obtain ⟨hcx, hxc⟩ := hxc
  refine ⟨c == x, kn.gm.exm c x hcx hx, fun hb a ha => ?_, fun hb => ?_⟩
  · rw [if_pos hb] at hxc
    have ec := beq_iff_eq.mp hb
    subst ec
    obtain ⟨hil, fs, ts, u, rfl, hlk, hou, hq⟩ := hxc
    have hil' : i < σ'.length := by rw [in_len h1]; exact hil
    obtain ⟨d', cs, w', e1, rfl, cc, r, h2⟩ := inP_nd (inP_keep (inP_of h1))
    cases e1
    obtain ⟨cl, rfl⟩ := cc
    have r : H' dd = some (.xd (fs.zip (cs.map (·.2)))) := r
    obtain ⟨z, hz, m⟩ := zip_lookup hlk
    refine ⟨.ref a, by rw [List.getElem?_set_self hil'], rfl, rfl, dd, _, z, rfl, r, hz, ?_⟩
    refine ⟨by rw [sizeLine_eq]; show 2 ≤ _; omega, fun q hq' => ?_⟩
    have h3 : In K F R H' ρ' σ' ((u, z) :: (T.nd (.xd fs) false (cs.map (·.1)), V.ref dd) :: (l1 ++ l0)) := inP_in (inP_up hou (inP_mem (List.mem_append_left _ m) h2))
    have h4 : In K F R H' ρ' σ' ([(.s w, .str w), (u, z)] ++ l0) := by
      exact in_lf _ (in_drops (k := (T.nd (.xd fs) false (cs.map (·.1)), V.ref dd) :: l1) (l := (u, z) :: l0) (in_perm (List.perm_middle (l₁ := (T.nd (.xd fs) false (cs.map (·.1)), V.ref dd) :: l1)).symm h3))
    have h5 := in_un (i := i) (some (.ref a)) (in_new (k := .lst) (w := .lst [.str w, z]) (cs := [(.s w, .str w), (u, z)]) hq' rfl h4)
    exact hr _ _ _ _ _ hq (hP _ _ _ (by simp [asgS]) hp') h5
  · rw [if_neg (by rw [hb]; decide)] at hxc
    exact hX c t ρ' σ' H' dd l1 hxc hp' h1
theorem sp_mono {a a' : List Nat} {c : Ed → Ev → Prop} {tt : WX → TS} (h : SP K a c tt) (hs : ∀ i ∈ a, i ∈ a') : SP K a' c tt :=
  fun F R l0 W P D Dl hP => h F R l0 W P D Dl fun σ i u hi => hP σ i u (hs i hi)
mutual
theorem sst (kn : Kn p K) (hΦ : PhiOk K Φs Φc) (hXI : XiOk p K Φs XI) : ∀ (s : Cm), SP K (asgS s) (cS p Φc XI s) (tS K Φs s)
  | .asg g e => sp_asg (snd kn hΦ e).1
  | .par2 i j a b => sp_par2 (snd kn hΦ a).1 (snd kn hΦ b).1
  | .par3 i j k a b c => sp_par3 (snd kn hΦ a).1 (snd kn hΦ b).1 (snd kn hΦ c).1
  | .sub o i v => sp_sub kn (snd kn hΦ v).1 (snd kn hΦ i).1
  | .fld o f v => sp_fld kn (snd kn hΦ v).1
  | .aug i op e => sp_aug (snd kn hΦ e).1
  | .ex e => fun F R l0 W P D Dl hP hX hn hr hb hct ρ σ H hc hp h => (snd kn hΦ e).1 F R σ l0 D.xc W (xk hX hp) false ρ [] H _ _ hc h fun _ _ _ _ hq h1 => hn _ _ _ hq hp (in_drop h1)
  | .ret e => fun F R l0 W P D Dl hP hX hn hr hb hct ρ σ H hc hp h => (snd kn hΦ e).1 F R σ l0 D.xc W (xk hX hp) true ρ [] H _ _ hc h fun _ _ _ _ hq h1 => hr _ _ _ _ _ hq hp h1
  | .retn => fun F R l0 W P D Dl hP hX hn hr hb hct ρ σ H hc hp h => hr _ _ _ _ _ hc hp (in_lf _ h)
  | .ite c a b => sp_ite (snd kn hΦ c).2 (ssts kn hΦ hXI a) (ssts kn hΦ hXI b)
  | .whl c b => sp_whl (snd kn hΦ c).2 (ssts kn hΦ hXI b)
  | .fr g k ss b => sp_fr (fun e he => (snds kn hΦ ss e he).1) (ssts kn hΦ hXI b)
  | .raise x f es => sp_raise hXI fun e he => (snds kn hΦ es e he).1
  | .tryAs b x i w f => sp_try kn (ssts kn hΦ hXI b)
  | .pass => fun F R l0 W P D Dl hP hX hn hr hb hct ρ σ H hc hp h => hn _ _ _ hc hp h
  | .brk => fun F R l0 W P D Dl hP hX hn hr hb hct ρ σ H hc hp h => hb _ _ _ hc hp h
  | .cont => fun F R l0 W P D Dl hP hX hn hr hb hct ρ σ H hc hp h => hct _ _ _ hc hp h
theorem ssts (kn : Kn p K) (hΦ : PhiOk K Φs Φc) (hXI : XiOk p K Φs XI) : ∀ (b : List Cm), SP K (asgSs b) (cSs p Φc XI b) (tSs K Φs b)
  | [] => fun F R l0 W P D Dl hP hX hn hr hb hct ρ σ H hc hp h => hn _ _ _ hc hp h
  | s :: r => fun F R l0 W P D Dl hP hX hn hr hb hct ρ σ H hc hp h =>
    sst kn hΦ hXI s F R l0 W P { D with nx := cSs p Φc XI r D } { Dl with nx := tSs K Φs r W Dl } (fun σ i u hi => hP σ i u (List.mem_append_left _ hi)) hX
      (fun ρ' σ' H' hq hp' h' => ssts kn hΦ hXI r F R l0 W P D Dl (fun σ i u hi => hP σ i u (List.mem_append_right _ hi)) hX hn hr hb hct ρ' σ' H' hq hp' h') hr hb hct ρ σ H hc hp h
end
end
/-! ### defs over trees -/
/-- the fields that an __init__ sets, and nothing else -/
def xiOf (t : Fd) : Option (List Str) := if t.N.length = t.np then go 1 t.b else none
where go (k : Nat) : List Cm → Option (List Str)
  | [] => if k = t.np then some [] else none
  | .fld (.var 0) f (.var j) :: r => if j = k then (go (k + 1) r).map fun fs => f :: fs else none
  | _ => none
def XIof (Tb : List Fd) (i : Nat) : Option (List Str) := (Tb[i]?).bind xiOf
def XIat (Tb : List Fd) : Nat → Nat → Option (List Str)
  | 0, _ => none
  | _ + 1, i => XIof Tb i
def outsOf (t : Fd) (ρ : Ev) : List T := (List.range t.np).map fun k => if (asgSs t.b).contains k = true then .un else ρ.getD k .un
def cPhi (p : Px) (Tb : List Fd) : Nat → CF
  | 0, _ => fun _ _ _ => False
  | n + 1, i => fun ts Q X => ∃ t, Tb[i]? = some t ∧ ts.length = t.np ∧ cSs p (cPhi p Tb n) (XIat Tb n) t.b ⟨fun ρ => Q .n (outsOf t ρ), fun r ρ => Q r (outsOf t ρ), fun _ => False, fun _ => False, fun c e _ => X c e⟩ (ts ++ List.replicate (t.N.length - t.np) .un)
section
variable {p : Px} {K : PySem.W.Frag} {Tb : List Fd} {F : Addr → Option HO} {R : Ow} {H : Hp} {ρ : List T} {σ : L2.St} {l l' : List (T × V)}
theorem in_pad {n : Nat} (h : In K F R H ρ σ l) : In K F R H (ρ ++ List.replicate n .un) (σ ++ List.replicate n none) l := by
  obtain ⟨O1, O2, a, b, c, d, e, f⟩ := h
  refine ⟨O1, O2, a, b, c, d, (reps_app (reps_len e)).mpr ⟨O1, z0, pl_z.symm, e, ?_⟩, f⟩
  induction n with
  | zero => exact ⟨rfl, rfl⟩
  | succ n ih => exact ⟨z0, z0, none, _, pl_z.symm, rfl, rfl, ih⟩
/-- the slots that keep what they were given are taken back -/
theorem outs_ok {as : List Nat} {vs : List V} : ∀ (m : Nat) {ρ : Ev} {l : List (T × V)}, m ≤ vs.length → (∀ k, k < vs.length → as.contains k = false → σ[k]? = some (vs[k]?)) → In K F R H ρ σ l →
    ∃ ρ' os, In K F R H ρ' σ (os ++ l) ∧ os.map (·.1) = ((List.range m).map fun k => if as.contains k = true then T.un else ρ.getD k .un) ∧ os.map (·.2) = vs.take m ∧ ∀ k, m ≤ k → ρ'[k]? = ρ[k]?
  | 0, ρ, l, _, _, h => ⟨ρ, [], h, rfl, by simp, fun _ _ => rfl⟩
  | m + 1, ρ, l, hm, hk, h => by
    obtain ⟨ρ', os, h1, e1, e2, e3⟩ := outs_ok m (by omega) hk h
    have hlt : m < vs.length := by omega
    have ev : vs.take (m + 1) = vs.take m ++ [vs[m]] := by rw [List.take_succ_eq_append_getElem hlt]
    have un0 : ∀ {ρ'' : Ev} {x : V}, In K F R H ρ'' σ (os ++ l) → In K F R H ρ'' σ (os ++ (T.un, x) :: l) := fun {ρ'' x} h => by
      refine in_perm List.perm_middle.symm ?_
      obtain ⟨O1, O2, a, b, c, d, e, f⟩ := h
      exact ⟨O1, O2, a, b, c, d, e, z0, O2, _, _, z_pl.symm, rfl, rfl, f⟩
    by_cases hc : as.contains m = true
    · refine ⟨ρ', os ++ [(.un, vs[m])], by simpa using un0 h1, ?_, by rw [List.map_append, e2, ev] <;> rfl, fun k hk => e3 k (by omega)⟩
      rw [List.map_append, e1, List.range_succ, List.map_append, List.map_singleton, List.map_singleton, if_pos hc]
    · have hg : ρ'[m]? = ρ[m]? := e3 m (Nat.le_refl _)
      by_cases hu : isUn (ρ.getD m .un) = true
      · have e : ρ.getD m .un = .un := by
          revert hu
          cases ρ.getD m .un <;> intro hu <;> first | rfl | cases hu
        refine ⟨ρ', os ++ [(.un, vs[m])], by simpa using un0 h1, ?_, by rw [List.map_append, e2, ev] <;> rfl, fun k hk => e3 k (by omega)⟩
        rw [List.map_append, e1, List.range_succ, List.map_append, List.map_singleton, List.map_singleton, if_neg hc, e]
      · have hr : ρ'[m]? = some (ρ.getD m .un) := by
          rw [hg, List.getD_eq_getElem?_getD]
          cases e : ρ[m]? with
          | none => rw [List.getD_eq_getElem?_getD, e] at hu; exact absurd rfl hu
          | some t => rfl
        obtain ⟨v, hv, h2⟩ := in_take hr (by simpa using hu) h1
        have := hk m hlt (by simpa using hc)
        rw [hv, List.getElem?_eq_getElem hlt] at this
        have ex : v = vs[m] := by
          have := Option.some.inj this
          exact Option.some.inj this
        subst ex
        refine ⟨ρ'.set m .un, os ++ [(ρ.getD m .un, vs[m])], ?_, ?_, by rw [List.map_append, e2, ev] <;> rfl, fun k hk => ?_⟩
        · rw [List.append_assoc]
          exact in_perm List.perm_middle.symm h2
        · rw [List.map_append, e1, List.range_succ, List.map_append, List.map_singleton, List.map_singleton, if_neg hc]
        · rw [List.getElem?_set_ne (by omega)]
          exact e3 k (by omega)
theorem xi_go {Φs : Nat → Sp} {t : Fd} (hoex : ∀ x, p.exs.contains x = true → OexC K (He.ga K x)) (hna : ∀ x f, p.noat.contains (x, f) = true → PySem.W.findIn K (.ref (He.ga K x)) f = some none) {x : Str} (hx : p.exs.contains x = true) {a : Addr} {W : WX} {D : Ends} {σ : L2.St} (h0 : σ[0]? = some (some (.ref a))) :
    ∀ (b : List Cm) (k : Nat) (fs : List Str) (done : List (Str × V)) (vs : List V) (H : Hp), xiOf.go t k b = some fs → (fs.all fun g => p.noat.contains (x, g)) = true → vs.length = fs.length → (∀ i, i < vs.length → σ[k + i]? = some (vs[i]?)) → done.length + fs.length ≤ 900 →
      ((done = [] ∧ fs ≠ [] ∧ H a = some (exo a (He.ga K x) none) ∧ ∀ dx, H dx = none → dx ≠ a → D.nx σ (upd (upd H dx (exd dx (fs.zip vs).reverse)) a (exo a (He.ga K x) (some dx)))) ∨
        (∃ dx, dx ≠ a ∧ H a = some (exo a (He.ga K x) (some dx)) ∧ H dx = some (exd dx done) ∧ D.nx σ (upd H dx (exd dx ((fs.zip vs).reverse ++ done))))) → tSs K Φs b W D σ H
  | [], k, fs, done, vs, H, hg, _, hl, _, _, hd => by
    unfold xiOf.go at hg
    split at hg
    · cases hg
      rcases hd with ⟨_, h, _⟩ | ⟨dx, _, _, h1, h2⟩
      · exact absurd rfl h
      · have e : upd H dx (exd dx done) = H := by
          funext b
          by_cases q : b = dx
          · subst q; rw [upd_same, h1]
          · rw [upd_ne q]
        have h2 : D.nx σ (upd H dx (exd dx done)) := by simpa using h2
        rw [e] at h2
        exact h2
    · cases hg
  | c :: b, k, fs, done, vs, H, hg, hn, hl, hv, h9, hd => by
    unfold xiOf.go at hg
    split at hg
    · rename_i heq
      cases heq
    · rename_i f j r heq
      cases heq
      split at hg
      · rename_i hj
        subst hj
        obtain ⟨fs', hg', rfl⟩ := Option.map_eq_some_iff.mp hg
        cases vs with
        | nil => cases hl
        | cons v vs =>
          have hv0 : σ[j]? = some (some v) := by
            have := hv 0 (by simp)
            simpa using this
          rw [List.all_cons] at hn
          obtain ⟨hn1, hn2⟩ := Bool.and_eq_true_iff.mp hn
          have hvr : ∀ i, i < vs.length → σ[j + 1 + i]? = some (vs[i]?) := fun i hi => by
            have := hv (i + 1) (by simpa using hi)
            rw [show j + 1 + i = j + (i + 1) from by omega, this]
            simp
          refine .inr ?_
          show ∃ w, σ[j]? = some (some w) ∧ ∃ w2, σ[0]? = some (some w2) ∧ ∃ a C : Addr, w2 = .ref a ∧ OexC K C ∧ PySem.W.findIn K (.ref C) f = some none ∧ _
          refine ⟨v, hv0, .ref a, h0, a, He.ga K x, rfl, hoex x hx, hna x f hn1, ?_⟩
          rcases hd with ⟨rfl, _, h1, h2⟩ | ⟨dx, hne, h1, h2, h3⟩
          · refine .inl ⟨h1, fun dx hdx hne => ?_⟩
            show tSs K Φs b W D σ _
            refine xi_go hoex hna hx h0 b (j + 1) fs' [(f, v)] vs _ hg' hn2 (by simpa using hl) hvr (by simp at h9 ⊢; omega) (.inr ⟨dx, hne, upd_same, by rw [upd_ne hne, upd_same], ?_⟩)
            have h4 := h2 dx hdx hne
            have e : upd (upd (upd H dx (exd dx [(f, v)])) a (exo a (He.ga K x) (some dx))) dx (exd dx ((fs'.zip vs).reverse ++ [(f, v)])) = upd (upd H dx (exd dx (((f :: fs').zip (v :: vs)).reverse))) a (exo a (He.ga K x) (some dx)) := by
              funext q
              rw [List.zip_cons_cons, List.reverse_cons]
              by_cases q1 : q = dx
              · subst q1; rw [upd_same, upd_ne hne, upd_same]
              · rw [upd_ne q1]
                by_cases q2 : q = a
                · subst q2; rw [upd_same, upd_same]
                · rw [upd_ne q2, upd_ne q2, upd_ne q1, upd_ne q1]
            rw [e]
            exact h4
          · refine .inr ⟨dx, done, h1, h2, by simp at h9; omega, ?_⟩
            show tSs K Φs b W D σ _
            refine xi_go hoex hna hx h0 b (j + 1) fs' ((f, v) :: done) vs _ hg' hn2 (by simpa using hl) hvr (by simp at h9 ⊢; omega) (.inr ⟨dx, hne, by rw [upd_ne (Ne.symm hne)]; exact h1, upd_same, ?_⟩)
            rw [upd_upd]
            rw [List.zip_cons_cons, List.reverse_cons, List.append_assoc] at h3
            exact h3
      · cases hg
    · cases hg
theorem xi_len {t : Fd} : ∀ {b : List Cm} {k : Nat} {fs : List Str}, xiOf.go t k b = some fs → k + fs.length = t.np
  | [], k, fs, h => by
    unfold xiOf.go at h
    split at h
    · cases h; simpa using ‹k = t.np›
    · cases h
  | c :: b, k, fs, h => by
    unfold xiOf.go at h
    split at h
    · rename_i heq; cases heq
    · rename_i heq
      cases heq
      split at h
      · obtain ⟨fs', h1, rfl⟩ := Option.map_eq_some_iff.mp h
        have := xi_len h1
        simp
        omega
      · cases h
    · cases h
end
end PL
set_option Elab.async false
set_option linter.all false
set_option maxRecDepth 100000
set_option maxHeartbeats 16000000
namespace PL
open PySem PySem.Spec PyProof.Rows L2
section
variable {p : Px} {K : PySem.W.Frag} {Tb : List Fd} {F : Addr → Option HO} {R : Ow} {H : Hp} {ρ : List T} {σ : L2.St} {l l' : List (T × V)}
theorem zip_un : ∀ (os : List (T × V)), (os.map (·.1)).zip (os.map (·.2)) = os
  | [] => rfl
  | _ :: os => by
    rw [List.map_cons, List.map_cons, List.zip_cons_cons, zip_un os]
theorem xi_ok (kn : Kn p K) : ∀ (n : Nat), XiOk p K (Phi K Tb n) (XIat Tb n)
  | 0 => fun _ _ h => nomatch h
  | n + 1 => by
    intro f fs hf x a vs H Post E hx hall hl h9 ha hne hq
    obtain ⟨t, ht, hxi⟩ := Option.bind_eq_some_iff.mp (show (Tb[f]?).bind xiOf = some fs from hf)
    unfold xiOf at hxi
    split at hxi
    · rename_i hN
      have hlen := xi_len hxi
      refine ⟨t, ht, by simp; omega, ?_⟩
      have hs : start0 t.N.length (.ref a :: vs) = (V.ref a :: vs).map some := by
        unfold start0
        rw [show t.N.length - (V.ref a :: vs).length = 0 from by simp; omega]
        simp
      rw [hs]
      refine xi_go (t := t) kn.oex kn.na hx (a := a) rfl t.b 1 fs [] vs H hxi hall hl (fun i hi => ?_) (by simpa using h9) (.inl ⟨rfl, hne, ha, fun dx h1 h2 => hq dx h1 h2⟩)
      rw [Nat.add_comm, List.map_cons, List.getElem?_cons_succ, List.getElem?_map, List.getElem?_eq_getElem hi]
      rfl
    · cases hxi
theorem phi_ok (kn : Kn p K) : ∀ (n : Nat), PhiOk K (Phi K Tb n) (cPhi p Tb n)
  | 0 => fun _ _ _ _ h => h.elim
  | n + 1 => by
    intro f ts Q X hc F R H vs Post E hl hi hr hx
    obtain ⟨t, ht, hnp, hc⟩ := hc
    refine ⟨t, ht, by omega, ?_⟩
    have h1 := in_pad (n := t.N.length - t.np) (in_toenv hi)
    have e1 : ((ts.zip vs).map fun p => some p.2) = vs.map some := by
      rw [show ((ts.zip vs).map fun p => some p.2) = ((ts.zip vs).map (·.2)).map some from by rw [List.map_map] <;> rfl, zip_snd hl]
    rw [zip_fst hl, e1] at h1
    have hs : start0 t.N.length vs = vs.map some ++ List.replicate (t.N.length - t.np) none := by
      unfold start0
      rw [← hl, hnp]
    rw [hs]
    have fin : ∀ {ρ' : Ev} {σ' : L2.St} {H' : Hp} {r : T} {v : V}, Q r (outsOf t ρ') → (∀ k, k < vs.length → (asgSs t.b).contains k = false → σ'[k]? = some (vs[k]?)) → In K F R H' ρ' σ' [(r, v)] → Post v H' := fun {ρ' σ' H' r v} hq hp h2 => by
      obtain ⟨ρ2, os, h3, e2, e3, _⟩ := outs_ok (as := asgSs t.b) (vs := vs) t.np (by omega) hp h2
      have e4 : os.map (·.1) = outsOf t ρ' := e2
      have e5 : vs.take t.np = vs := List.take_of_length_le (by omega)
      rw [e5] at e3
      have e6 := zip_un os
      rw [e4, e3] at e6
      refine hr H' r v (outsOf t ρ') hq ?_ ?_
      · rw [← e4, List.length_map, ← e3, List.length_map]
      · rw [e6]
        exact in_env (in_perm List.perm_append_comm h3)
    refine ssts kn (phi_ok kn n) (xi_ok kn n) t.b F R [] _ (fun σ => ∀ k, k < vs.length → (asgSs t.b).contains k = false → σ[k]? = some (vs[k]?)) _ _ (fun σ i u hi hp k hk hc => ?_) (fun c e ρ' σ' H' dd l1 hq hp h2 => ?_) (fun ρ' σ' H' hq hp h2 => ?_) (fun r v ρ' σ' H' hq hp h2 => ?_) (fun _ _ _ h _ _ => False.elim h) (fun _ _ _ h _ _ => False.elim h) _ _ H hc (fun k hk _ => ?_) h1
    · have ne : i ≠ k := fun e => by
        subst e
        rw [List.contains_iff_mem.mpr hi] at hc
        cases hc
      rw [List.getElem?_set_ne ne]
      exact hp k hk hc
    · rw [List.append_nil] at h2
      exact hx H' c e dd hq (in_env (in_drops (k := l1) (l := [(e, .ref dd)]) (in_perm List.perm_append_comm.symm h2)))
    · exact fin hq hp (in_lf _ h2)
    · exact fin hq hp h2
    · rw [List.getElem?_append_left (by simpa using hk), List.getElem?_map, List.getElem?_eq_getElem hk]
      rfl
/-- the law's own def, at the top -/
theorem law_end (kn : Kn p K) {n i : Nat} {ns : List Int} (hc : cPhi p Tb n i [.scr ns] (fun r _ => r = .b true) fun _ _ => False) {a : Addr} (h : SqL K H a (ns.map V.int)) : Phi K Tb n i [.ref a] H (fun v _ => v = .bl true) (fun _ _ _ => False) := by
  refine phi_ok kn n i [.scr ns] _ _ hc (fun _ => none) z0 H [.ref a] _ _ rfl ?_ (fun H' r v os hq _ h2 => ?_) fun _ _ _ _ h _ => h.elim
  · refine ⟨z0, z0, fun x => by simp [z0], fun x hx => absurd rfl hx, fun x u hx => (by cases hx), fun x hx => absurd rfl hx, ⟨rfl, rfl⟩, z0, z0, _, _, pl_z.symm, rfl, ⟨⟨a, rfl, ?_⟩, rfl⟩, rfl, rfl⟩
    rcases h with h | h
    · exact .inl ⟨h, rfl⟩
    · exact .inr fun H' => .inr h
  · subst hq
    exact in_fl h2
theorem kn_of {mg : Str → Option Value} (g : Gd p K mg) (m : Gm p K) (ho : ∀ x, p.exs.contains x = true → OexC K (He.ga K x)) : Kn p K := ⟨g.cl, g.noat, m, ho⟩
end
end PL
set_option Elab.async false
set_option linter.all false
set_option maxRecDepth 100000
set_option maxHeartbeats 16000000
namespace PL
open PySem PySem.Spec PyProof.Rows L2
/-! ### from the top to the law's def -/
def defsOf (body : List Stmt) : List He.DefD := body.flatMap fun s => match s with
  | .FunctionDef n a b _ _ _ sc _ _ _ => [⟨(n, none), n, n, a, b, sc, [], []⟩]
  | .ClassDef c _ _ b _ _ _ _ _ _ _ => b.flatMap fun m => match m with
    | .FunctionDef n a b _ _ _ sc _ _ _ => [⟨(c, some n), n, c ++ "." ++ n, a, b, sc, [], []⟩]
    | _ => []
  | _ => []
def looseOf (sc : Scope) : List Str := (sc.names.filter fun p => (p.2 == NameKind.local) && (p.1 != ("law" : Str)) && (p.1 != ("__name__" : Str))).map (·.1)
section
variable {p : Px} {K : PySem.W.Frag} {Tb : List Fd} {P : Program} {w : World} {h : Heap} {mg : Str → Option Value}
theorem oex_of (c : obsP p K = (true, He.valD p.ds)) : ∀ x, p.exs.contains x = true → OexC K (He.ga K x) := fun x hx => by
  have m : moreB p K = true := congrArg (fun z : AlP => z.1) c
  unfold moreB at m
  simp only [Bool.and_eq_true] at m
  obtain ⟨⟨⟨m1, m2⟩, m3⟩, m4⟩ := m
  have q := List.all_eq_true.mp m3 x (by simpa using hx)
  simp only [Bool.and_eq_true] at q
  exact oexB_ok q.1.1
theorem law_facts (c : Chk p Tb) {i n : Nat} {d : He.DefD} (hd : p.ds[i]? = some d) (ha : d.at_ = (("law" : Str), none)) (hp : parsOf d = [("script" : Str)])
    (hc : ∀ ns : List Int, ns.length ≤ 63 → cPhi p Tb n i [.scr ns] (fun r _ => r = .b true) fun _ _ => False) {fa : Addr} (Y : ∃ K : PySem.W.Frag, K.In h ∧ obsP p K = (true, He.valD p.ds)) (G : h.Ns mainGlobals mg) (hm : mg ("law" : Str) = some (.ref fa)) :
    ∃ (K : PySem.W.Frag) (fd : FuncData) (sp : Sp), K.In h ∧ (∀ (s : Shared) (u : Value), BindsTo s fd ⟨[u], []⟩ [(("script" : Str), u)]) ∧
      (∀ (H : Hp) (a : Addr) (ns : List Int), ns.length ≤ 63 → Only H → SqL K H a (ns.map V.int) → sp [.ref a] H (fun v _ => v = .bl true) fun _ _ _ => False) ∧
      ∀ base : Heap, K.In base → base.Ns mainGlobals mg → FnOk P w K mg base (L2.CX P w) (2 * n) fa fd [("script" : Str)] sp := by
  obtain ⟨K, X, s⟩ := Y
  have g : Gd p K mg := gd_of X G s
  have kn : Kn p K := kn_of g (gm_of s) (oex_of s)
  have e := hm.symm.trans (g.fng i d "law" hd ha)
  have ef : fa = He.fAd K d.at_ := by
    have := Option.some.inj e
    injection this
  obtain ⟨fd, F⟩ := g.def_ i d hd
  obtain ⟨_, _, _, bt⟩ := fn_all (P := P) (w := w) (base := h) c g n i d hd fd F
  refine ⟨K, fd, Phi K Tb n i, X, fun s u => ?_, fun H a ns hl _ hS => law_end kn (hc ns hl) hS, fun base _ _ => ?_⟩
  · have := bt s [u] (by rw [hp] <;> rfl)
    rw [hp] at this
    exact this
  · have q := (fn_all (P := P) (w := w) (base := base) c g n i d hd fd F).1
    rw [hp] at q
    rw [ef]
    exact q
theorem d_of {i : Nat} (h : (p.ds[i]?).map (fun d => (d.at_, parsOf d)) = some ((("law" : Str), none), [("script" : Str)])) : ∃ d, p.ds[i]? = some d ∧ d.at_ = (("law" : Str), none) ∧ parsOf d = [("script" : Str)] := by
  obtain ⟨d, h1, h2⟩ := Option.map_eq_some_iff.mp h
  cases h2' : d.at_
  have e := Prod.mk.inj h2
  exact ⟨d, h1, e.1, e.2⟩
theorem cx_no {P : Program} {w : World} (H : Hp) (s : Shared) (e : Value) (s' : Shared) : L2.CX P w [] H s (fun _ _ _ => False) e s' → False := fun ⟨_, _, _, _, _, _, _, _, _, _, _, _, h⟩ => h
/-- the law's walk, the exceptions' frame by the world -/
theorem walk_w {l : PySem.W.OpenLaw} {n k : Nat} {q : Program} {loose : List Str} {XP : (Str → Option Value) → Heap → Prop}
    {YP : World → Heap → Prop} {d : DefRec} {x : Str} (hn : l.most = some n) (hz : n ≤ sizeLine) (hdf : d.params.defaults = [])
    (room : Room k callerA)
    (F : ∀ (w : World) (mg : Str → Option Value) (fa : Addr) (h : Heap), YP w h → h.Ns mainGlobals mg → mg d.name = some (.ref fa) →
      ∃ (K : PySem.W.Frag) (fd : FuncData) (sp : Sp), K.In h ∧
        (∀ (s : Shared) (u : Value), BindsTo s fd ⟨[u], []⟩ [(x, u)]) ∧
        (∀ (H : Hp) (a : Addr) (ns : List Int), ns.length ≤ n → Only H → SqL K H a (ns.map V.int) → sp [.ref a] H (fun v _ => v = .bl true) fun _ _ _ => False) ∧
        ∀ base : Heap, K.In base → base.Ns mainGlobals mg → FnOk l.prog w K mg base (L2.CX l.prog w) k fa fd [x] sp) :
    PySem.W.WalkO q loose XP YP l.row.toRowW d [] (fun f vs => PySem.call f vs) := by
  refine Att.attach_call hn hdf ?_
  intro w s₀ s₁ mg mb fa o pm cd doc a vs ns G Y ho hd hcd hmg hobj hints hlen hg
  obtain ⟨K, fd, sp, KX, hb, hsp, hF⟩ := F w mg fa _ Y G.T.g hmg
  refine law_call KX G.T.g G.T.b G.T.builtins G.T.nolimit hg hobj hints (Nat.le_trans hlen hz) room hF hb ?_ ?_
  · exact fun H only hs => hsp H a ns hlen only hs
  · exact fun H e s' => cx_no H s₁ e s'
end
end PL
set_option Elab.async false
set_option linter.all false
set_option maxRecDepth 100000
set_option maxHeartbeats 4000000
namespace PL
open PySem PySem.Spec PyProof.Rows L2
@[simp] theorem clsOf_ty {n : String} : clsOf (.ty n) = some [.b n] := rfl
@[simp] theorem clsOf_cls {n : Str} : clsOf (.cls n) = some [.c n] := rfl
@[simp] theorem clsOf_tup {es : List Ex} : clsOf (.tup es) = mapO cls1 es := rfl
@[simp] theorem mapO_n {α β : Type} {f : α → Option β} : mapO f [] = some [] := rfl
@[simp] theorem mapO_c {α β : Type} {f : α → Option β} {a : α} {r : List α} : mapO f (a :: r) = (f a).bind fun b => (mapO f r).map fun bs => b :: bs := rfl
@[simp] theorem isi_b {m n : String} : isi (.b m) (.b n) = (m == n || (m == "bool" && n == "int")) := rfl
@[simp] theorem isi_c {m n : Str} : isi (.c m) (.c n) = (m == n) := rfl
@[simp] theorem isi_bc {m : String} {n : Str} : isi (.b m) (.c n) = false := rfl
@[simp] theorem isi_cb {m : Str} {n : String} : isi (.c m) (.b n) = false := rfl
/-- tags of built-in types are always at hand -/
@[simp] theorem okT_base {p : Px} {t : Tag} {us : List Tag} (h : (baseTags.contains t && us.all (fun u => baseTags.contains u) && decide (us.length ≤ 100)) = true) : okTags p t us = true := by
  unfold okTags tagsOf
  simp only [Bool.and_eq_true, List.all_eq_true, List.contains_iff_mem] at h ⊢
  exact ⟨⟨List.mem_append_left _ h.1.1, fun u hu => List.mem_append_left _ (h.1.2 u hu)⟩, h.2⟩
/-- what the callee leaves of its arguments -/
def outsL (np : Nat) (al : List Nat) (ρ : Ev) : List T := (List.range np).map fun k => if al.contains k = true then .un else ρ.getD k .un
theorem isUn_un  : isUn .un = true := rfl
theorem isUn_lf {v : V} : isUn (.lf v) = false := rfl
theorem isUn_cls {x : Str} : isUn (.cls x) = false := rfl
theorem isUn_scr {ns : List Int} : isUn (.scr ns) = false := rfl
theorem isUn_cel {w : HO} : isUn (.cel w) = false := rfl
theorem isUn_tup {ts : List T} : isUn (.tup ts) = false := rfl
theorem isUn_nd {k : Kd} {o : Bool} {ts : List T} : isUn (.nd k o ts) = false := rfl
theorem isL_un  : isLst .un = false := rfl
theorem isD_un  : isDct .un = false := rfl
theorem isL_lf {v : V} : isLst (.lf v) = false := rfl
theorem isD_lf {v : V} : isDct (.lf v) = false := rfl
theorem isL_cls {x : Str} : isLst (.cls x) = false := rfl
theorem isD_cls {x : Str} : isDct (.cls x) = false := rfl
theorem isL_scr {ns : List Int} : isLst (.scr ns) = false := rfl
theorem isD_scr {ns : List Int} : isDct (.scr ns) = false := rfl
theorem isL_cel {w : HO} : isLst (.cel w) = false := rfl
theorem isD_cel {w : HO} : isDct (.cel w) = false := rfl
theorem isL_tup {ts : List T} : isLst (.tup ts) = false := rfl
theorem isD_tup {ts : List T} : isDct (.tup ts) = false := rfl
theorem isL_lst  {o : Bool} {ts : List T} : isLst (.nd .lst o ts) = true := rfl
theorem isD_lst  {o : Bool} {ts : List T} : isDct (.nd .lst o ts) = false := rfl
theorem isL_dct {ks : List Key} {o : Bool} {ts : List T} : isLst (.nd (.dct ks) o ts) = false := rfl
theorem isD_dct {ks : List Key} {o : Bool} {ts : List T} : isDct (.nd (.dct ks) o ts) = true := rfl
theorem isL_obj {C : Str} {fs : List Str} {o : Bool} {ts : List T} : isLst (.nd (.obj C fs) o ts) = false := rfl
theorem isD_obj {C : Str} {fs : List Str} {o : Bool} {ts : List T} : isDct (.nd (.obj C fs) o ts) = false := rfl
theorem tag_n : tagOf .n = some (.b "NoneType") := rfl
theorem tag_b {k : Bool} : tagOf (.b k) = some (.b "bool") := rfl
theorem tag_i {k : Int} : tagOf (.i k) = some (.b "int") := rfl
theorem tag_s {k : Str} : tagOf (.s k) = some (.b "str") := rfl
theorem tag_tup {ts : List T} : tagOf (.tup ts) = some (.b "tuple") := rfl
theorem tag_lst {o : Bool} {ts : List T} : tagOf (.nd .lst o ts) = some (.b "list") := rfl
theorem tag_dct {ks : List Key} {o : Bool} {ts : List T} : tagOf (.nd (.dct ks) o ts) = some (.b "dict") := rfl
theorem tag_obj {C : Str} {fs : List Str} {o : Bool} {ts : List T} : tagOf (.nd (.obj C fs) o ts) = some (.c C) := rfl
theorem tru_n : truT .n = some false := rfl
theorem tru_b {k : Bool} : truT (.b k) = some k := rfl
theorem tru_i {k : Int} : truT (.i k) = some (k != 0) := rfl
theorem tru_lst {o : Bool} {ts : List T} : truT (.nd .lst o ts) = some !ts.isEmpty := rfl
theorem tru_tup {ts : List T} : truT (.tup ts) = some !ts.isEmpty := rfl
theorem len_lst {o : Bool} {ts : List T} : lenT (.nd .lst o ts) = some ts.length := rfl
theorem len_tup {ts : List T} : lenT (.tup ts) = some ts.length := rfl
theorem len_dct {ks : List Key} {o : Bool} {ts : List T} : lenT (.nd (.dct ks) o ts) = some ks.length := rfl
theorem len_s {y : Str} : lenT (.s y) = if y.length ≤ sizeLine then some y.length else none := rfl
section
variable {Q : T → Prop} {Q2 : T → T → Prop} {i j : Int} {x y : Str} {ts us : List T} {o o2 : Bool} {t u : T} {ks : List Key} {k : Bool} {ns : List Int}
theorem bin_addi : PL.binT .Add (.i i) (.i j) Q = Q (.i (i + j)) := rfl
theorem bin_adds : PL.binT .Add (.s x) (.s y) Q = (x.length + y.length ≤ sizeLine ∧ Q (.s (x ++ y))) := rfl
theorem bin_addl : PL.binT .Add (.nd .lst o ts) (.nd .lst o2 us) Q = (ts.length + us.length ≤ sizeLine ∧ Q (.nd .lst true (ts ++ us))) := rfl
theorem bin_addt : PL.binT .Add (.tup ts) (.tup us) Q = (ts.length + us.length ≤ sizeLine ∧ Q (.tup (ts ++ us))) := rfl
theorem bin_sub : PL.binT .Sub (.i i) (.i j) Q = Q (.i (i - j)) := rfl
theorem bin_mul : PL.binT .Mult (.i i) (.i j) Q = (CMulW i j ∧ Q (.i (i * j))) := rfl
theorem bin_rep : PL.binT .Mult (.nd .lst o ts) (.i i) Q = ((-(2 ^ 63) ≤ i ∧ i < 2 ^ 63 ∧ ts.length * i.toNat ≤ sizeLine ∧ ows ts = false) ∧ Q (.nd .lst true (List.replicate i.toNat ts).flatten)) := rfl
theorem bin_div : PL.binT .FloorDiv (.i i) (.i j) Q = (CDivN i j ∧ Q (.i (i.fdiv j))) := rfl
theorem bin_mod : PL.binT .Mod (.i i) (.i j) Q = (j ≠ 0 ∧ Q (.i (i.fmod j))) := rfl
theorem bin_pow : PL.binT .Pow (.i i) (.i j) Q = (CPow i j ∧ Q (.i (i ^ j.toNat))) := rfl
theorem cmp_lt : cmpT .Lt (.i i) (.i j) = some (decide (i < j)) := rfl
theorem cmp_le : cmpT .LtE (.i i) (.i j) = some (decide (i ≤ j)) := rfl
theorem cmp_gt : cmpT .Gt (.i i) (.i j) = some (decide (j < i)) := rfl
theorem cmp_ge : cmpT .GtE (.i i) (.i j) = some (decide (j ≤ i)) := rfl
theorem cmp_eq : cmpT .Eq t u = eqT t u := rfl
theorem cmp_ne : cmpT .NotEq t u = (eqT t u).map (!·) := rfl
theorem cmp_is : cmpT .Is t u = isT t u := rfl
theorem cmp_isn : cmpT .IsNot t u = (isT t u).map (!·) := rfl
theorem cmp_in : cmpT .In t u = inT t u := rfl
theorem cmp_nin : cmpT .NotIn t u = (inT t u).map (!·) := rfl
theorem is_n {v : V} : isT (.lf v) .n = some (decide (v = .non)) := by cases v <;> rfl
theorem is_tup : isT (.tup ts) .n = some false := rfl
theorem is_nd {kd : Kd} : isT (.nd kd o ts) .n = some false := rfl
theorem is_b {k2 : Bool} : isT (.b k) (.b k2) = some (decide (k = k2)) := rfl
theorem eqT_ii : eqT (.i i) (.i j) = some (i == j) := rfl
theorem eqT_ss : eqT (.s x) (.s y) = if (SeqAt.shaped (.str x) && SeqAt.shaped (.str y)) = true then some (x == y) else none := rfl
theorem eqT_nil {o : Bool} : eqT (.nd .lst o []) (.nd .lst o2 []) = some true := rfl
theorem blt_len : bltT .len t Q = ∃ n, lenT t = some n ∧ Q (.i n) := rfl
theorem blt_listl : bltT .list (.nd .lst o ts) Q = (ows ts = false ∧ Q (.nd .lst true ts)) := rfl
theorem blt_listt : bltT .list (.tup ts) Q = (ows ts = false ∧ Q (.nd .lst true ts)) := rfl
theorem blt_lists : bltT .list (.scr ns) Q = Q (.nd .lst true (ns.map .i)) := rfl
theorem blt_listd : bltT .list (.nd (.dct ks) o ts) Q = Q (.nd .lst true (ks.map keyT)) := rfl
theorem blt_tupl : bltT .tuple (.nd .lst o ts) Q = (ows ts = false ∧ Q (.tup ts)) := rfl
theorem blt_tupt : bltT .tuple (.tup ts) Q = (ows ts = false ∧ Q (.tup ts)) := rfl
theorem blt_int : bltT .int (.i i) Q = Q (.i i) := rfl
theorem blt_str : bltT .str (.i i) Q = (i.natAbs.log2 < 1920 ∧ Q (.s (toString i))) := rfl
theorem blt_abs : bltT .abs (.i i) Q = Q (.i (if i < 0 then -i else i)) := rfl
theorem blt_all : bltT .all (.nd .lst o ts) Q = ∃ bs, boolsOf ts = some bs ∧ Q (.b (bs.all id)) := rfl
theorem blt_any : bltT .any (.nd .lst o ts) Q = ∃ bs, boolsOf ts = some bs ∧ Q (.b (bs.any id)) := rfl
theorem blt2_max : blt2T .max (.i i) (.i j) Q = Q (.i (if j > i then j else i)) := rfl
theorem blt2_min : blt2T .min (.i i) (.i j) Q = Q (.i (if j < i then j else i)) := rfl
theorem sl_l {lo hi : Option Int} : sliceT (.nd .lst o ts) lo hi Q = (ows ts = false ∧ Q (.nd .lst true (cutL ts lo hi))) := rfl
theorem sl_t {lo hi : Option Int} : sliceT (.tup ts) lo hi Q = (ows ts = false ∧ Q (.tup (cutL ts lo hi))) := rfl
theorem m0_pop : mth0T .pop0 (.nd .lst true ts) Q2 = ∃ y, ts[ts.length - 1]? = some y ∧ Q2 (.nd .lst true ts.dropLast) y := rfl
theorem m1_app : mth1T .append (.nd .lst true ts) t Q2 = (ts.length < sizeLine ∧ Q2 (.nd .lst true (ts ++ [t])) .n) := rfl
theorem m1_pop : mth1T .pop1 (.nd .lst true ts) (.i i) Q2 = ∃ k y, -(2 ^ 63) ≤ i ∧ i < 2 ^ 63 ∧ seqIndex? i ts.length = some k ∧ ts[k]? = some y ∧ Q2 (.nd .lst true (ts.eraseIdx k)) y := rfl
theorem m1_ext : mth1T .extend (.nd .lst true ts) (.nd .lst o us) Q2 = (ts.length + us.length ≤ sizeLine ∧ Q2 (.nd .lst true (ts ++ us)) .n) := rfl
theorem set_l : setT (.nd .lst true ts) (.i i) t Q = ∃ j, ixN ts.length i = some j ∧ Q (.nd .lst true (ts.set j t)) := rfl
theorem set_d : setT (.nd (.dct ks) true ts) u t Q = ∃ k', toKey u = some k' ∧ ks.length < sizeLine ∧ (ow t = false ∨ ks.Nodup) ∧ Q (.nd (.dct (putD ks ts k' t).1) true (putD ks ts k' t).2) := rfl
theorem setF_o {p : Px} {f C : Str} {fs : List Str} : setFT p f t (.nd (.obj C fs) true ts) Q = (okAt p C f = true ∧ fs.length < 1000 ∧ Q (.nd (.obj C (putFd f t fs ts).1) true (putFd f t fs ts).2)) := rfl
theorem key_i : toKey (.i i) = some (.inl i) := rfl
theorem key_s : toKey (.s x) = some (.inr x) := rfl
theorem ix_l : idxT (.nd .lst o ts) (.i i) = atI ts i := rfl
theorem ix_t : idxT (.tup ts) (.i i) = atI ts i := rfl
theorem ix_s : idxT (.s x) (.i i) = if x.length ≤ sizeLine then (atI x.cps.toList i).map fun c => T.s ⟨#[c]⟩ else none := rfl
theorem ix_d {q : T} : idxT (.nd (.dct ks) o ts) q = (toKey q).bind fun k => dgetT ks ts k := by
  unfold idxT
  rfl
theorem fld_o {p : Px} {f C : Str} {fs : List Str} : fldT p f (.nd (.obj C fs) o ts) = if okAt p C f = true then (fs.zip ts).lookup f else none := rfl
theorem it_l : itemsT .seq [.nd .lst o ts] = some ts := rfl
theorem it_t : itemsT .seq [.tup ts] = some ts := rfl
theorem it_d : itemsT .seq [.nd (.dct ks) o ts] = some (ks.map keyT) := rfl
theorem it_s : itemsT .seq [.s x] = some (x.cps.toList.map fun c => .s ⟨#[c]⟩) := rfl
theorem it_r1 : itemsT .rng1 [.i i] = if -(2 ^ 62) ≤ i ∧ i < 2 ^ 62 then some ((List.range i.toNat).map fun (k : Nat) => T.i (k : Int)) else none := rfl
theorem it_e : itemsT .enum [.nd .lst o ts] = some (enumT 0 ts) := rfl
theorem it_z : itemsT .zip [.nd .lst o ts, .nd .lst o2 us] = some (zipT ts us) := rfl
theorem it_zt : itemsT .zip [.tup ts, .tup us] = some (zipT ts us) := rfl
theorem dct1_1 : isDct1 [t] = isDct t := rfl
theorem dct1_2 : isDct1 [t, u] = false := rfl
end
/-- division, told to simp by a name of its own -/
def fd (i j : Int) : Int := i.fdiv j
def fm (i j : Int) : Int := i.fmod j
theorem bin_dv {i j : Int} {Q : T → Prop} : PL.binT .FloorDiv (.i i) (.i j) Q = (CDivN i j ∧ Q (.i (fd i j))) := rfl
theorem bin_md {i j : Int} {Q : T → Prop} : PL.binT .Mod (.i i) (.i j) Q = (j ≠ 0 ∧ Q (.i (fm i j))) := rfl
end PL
set_option Elab.async false
set_option linter.all false
set_option maxRecDepth 100000
set_option maxHeartbeats 4000000
namespace PL
open PySem PySem.Spec PyProof.Rows L2
theorem shaped_mk {d : PyData} (h1 : d.canLay0 = true) (h2 : d.depth ≤ 64) : SeqAt.shaped d = true := by
  unfold SeqAt.shaped
  rw [h1, decide_eq_true h2] <;> rfl
theorem pds_map {α : Type} {f : α → T} {g : α → PyData} (h : ∀ a, pdOf (f a) = some (g a)) : ∀ l : List α, pdsOf (l.map f) = some (l.map g)
  | [] => rfl
  | a :: l => by
    show (pdOf (f a)).bind (fun d => (pdsOf (l.map f)).map fun ds => d :: ds) = _
    rw [h a, pds_map h l] <;> rfl
theorem lay_all : ∀ {ds : List PyData}, (∀ d ∈ ds, d.canLay0 = true) → PyData.canLayAll0 ds = true
  | [], _ => by simp only [PyData.canLayAll0]
  | d :: ds, h => by
    simp only [PyData.canLayAll0]
    rw [h d List.mem_cons_self, lay_all fun e he => h e (List.mem_cons_of_mem _ he)] <;> rfl
theorem depth_all {k : Nat} : ∀ {ds : List PyData}, (∀ d ∈ ds, d.depth ≤ k) → PyData.depthAll ds ≤ k
  | [], _ => by simp only [PyData.depthAll]; omega
  | d :: ds, h => by
    simp only [PyData.depthAll]
    have := h d List.mem_cons_self
    have := depth_all fun e he => h e (List.mem_cons_of_mem _ he)
    omega
theorem shaped_list {ds : List PyData} (h1 : ∀ d ∈ ds, d.canLay0 = true) (h2 : ∀ d ∈ ds, d.depth ≤ 60) : SeqAt.shaped (.list ds) = true := by
  refine shaped_mk ?_ ?_
  · simp only [PyData.canLay0]
    exact lay_all h1
  · simp only [PyData.depth]
    have := depth_all h2
    omega
/-- a list of ints against [] -/
theorem eqT_ints {o o2 : Bool} (ns : List Int) : eqT (.nd .lst o (ns.map .i)) (.nd .lst o2 []) = some ns.isEmpty := by
  unfold eqT
  have e : pdOf (.nd .lst o (ns.map .i)) = some (.list (ns.map .int)) := by
    unfold pdOf
    rw [pds_map (g := PyData.int) (fun _ => rfl)] <;> rfl
  rw [e]
  have s : SeqAt.shaped (.list (ns.map .int)) = true := shaped_list (fun d hd => by
    obtain ⟨i, _, rfl⟩ := List.mem_map.mp hd
    simp only [PyData.canLay0]) (fun d hd => by
    obtain ⟨i, _, rfl⟩ := List.mem_map.mp hd
    simp [PyData.depth])
  show (if (SeqAt.shaped (.list (ns.map .int)) && SeqAt.shaped (.list [])) = true then some (PyData.eqv (.list (ns.map .int)) (.list [])) else none) = _
  rw [s, if_pos (by rfl)]
  cases ns with
  | nil => rfl
  | cons n ns => rfl
end PL
set_option Elab.async false
set_option linter.all false
set_option maxRecDepth 100000
set_option maxHeartbeats 4000000
/-! The small language over trees, run as a function. -/
namespace PL
open PySem PySem.Spec PyProof.Rows L2

inductive Rs (α : Type) where
  | ok (a : α) (ρ : Ev) | ex (c : Str) (e : T) (ρ : Ev) | bad
def Rs.bd {α β : Type} (r : Rs α) (f : α → Ev → Rs β) : Rs β := match r with
  | .ok a ρ => f a ρ
  | .ex c e ρ => .ex c e ρ
  | .bad => .bad
/-- nothing is raised -/
def Rs.nox {α : Type} : Rs α → Rs α
  | .ok a ρ => .ok a ρ
  | _ => .bad
def Rs.post {α : Type} (r : Rs α) (Q : α → Ev → Prop) (X : CE0) : Prop := match r with
  | .ok a ρ => Q a ρ
  | .ex c e ρ => X c e ρ
  | .bad => False
inductive Rc where
  | ok (t : T) (os : List T) | ex (c : Str) (e : T) | bad
def Rc.post (r : Rc) (Q : T → List T → Prop) (X : Str → T → Prop) : Prop := match r with
  | .ok a ρ => Q a ρ
  | .ex c e => X c e
  | .bad => False
abbrev RF := Nat → List T → Rc
def rO {α : Type} (o : Option α) (ρ : Ev) : Rs α := match o with
  | some t => .ok t ρ
  | none => .bad
/-- under a condition -/
noncomputable def gd {α : Type} (c : Prop) (x : Option α) : Option α := open Classical in if c then x else none
theorem gd_t {α : Type} {c : Prop} {x : Option α} (h : c) : gd c x = x := if_pos h
theorem gd_some {α : Type} {c : Prop} {x : Option α} {y : α} (h : gd c x = some y) : c ∧ x = some y := by
  unfold gd at h
  split at h
  · exact ⟨‹_›, h⟩
  · cases h
/-! ### operators -/
noncomputable def binF : Operator → T → T → Option T
  | .Add, .lf (.int i), .lf (.int j) => some (.i (i + j))
  | .Add, .lf (.str i), .lf (.str j) => gd (i.length + j.length ≤ 16777216) (some (.s (i ++ j)))
  | .Add, .nd .lst _ ts, .nd .lst _ us => gd (ts.length + us.length ≤ 16777216) (some (.nd .lst true (ts ++ us)))
  | .Add, .tup ts, .tup us => gd (ts.length + us.length ≤ 16777216) (some (.tup (ts ++ us)))
  | .Sub, .lf (.int i), .lf (.int j) => some (.i (i - j))
  | .Mult, .lf (.int i), .lf (.int j) => gd (CMulW i j) (some (.i (i * j)))
  | .Mult, .nd .lst _ ts, .lf (.int k) => gd (-(2 ^ 63) ≤ k ∧ k < 2 ^ 63 ∧ ts.length * k.toNat ≤ 16777216) (gd (ows ts = false) (some (.nd .lst true (List.replicate k.toNat ts).flatten)))
  | .FloorDiv, .lf (.int i), .lf (.int j) => gd (j ≠ 0 ∧ j.natAbs < 1073741824) (some (.i (i.fdiv j)))
  | .Mod, .lf (.int i), .lf (.int j) => gd (j ≠ 0) (some (.i (i.fmod j)))
  | .Pow, .lf (.int i), .lf (.int j) => gd (0 ≤ j ∧ j ≤ 1000000 ∧ i.natAbs < 2 ^ 64) (some (.i (i ^ j.toNat)))
  | _, _, _ => none
def negF : T → Option T
  | .lf (.int i) => some (.i (-i))
  | _ => none
def notF (t : T) : Option T := match truT t with
  | some k => some (.b !k)
  | none => none
def truE (t : T) (ρ : Ev) : Rs Bool := rO (truT t) ρ
def truQ (t : Option T) (ρ : Ev) : Rs Bool := match t with
  | some t => rO (truT t) ρ
  | none => .bad
def cmpF (op : CmpOp) (a b : T) : Option T := match cmpT op a b with
  | some k => some (.b k)
  | none => none
def cmpQ (op : CmpOp) (a b : Option T) : Option T := match a, b with
  | some a, some b => cmpF op a b
  | _, _ => none
noncomputable def lstF (ts : List T) (ρ : Ev) : Rs T := rO (gd (ts.length ≤ 16777216) (some (.nd .lst true ts))) ρ
noncomputable def tupF (ts : List T) (ρ : Ev) : Rs T := rO (gd (ts.length ≤ 16777216) (some (.tup ts))) ρ
noncomputable def dctF (xs : List Key) (ts : List T) (ρ : Ev) : Rs T := rO (gd (xs.Nodup ∧ xs.length ≤ 15) (some (.nd (.dct xs) true ts))) ρ
noncomputable def bltF : Bl → T → Option T
  | .len, t => match lenT t with
    | some n => some (.i n)
    | none => none
  | .list, .nd .lst _ ts => gd (ows ts = false) (some (.nd .lst true ts))
  | .list, .tup ts => gd (ows ts = false) (some (.nd .lst true ts))
  | .list, .scr ns => some (.nd .lst true (ns.map .i))
  | .list, .nd (.dct ks) _ _ => some (.nd .lst true (ks.map keyT))
  | .tuple, .nd .lst _ ts => gd (ows ts = false) (some (.tup ts))
  | .tuple, .tup ts => gd (ows ts = false) (some (.tup ts))
  | .int, .lf (.int i) => some (.i i)
  | .int, .lf (.bl k) => some (.i (if k = true then 1 else 0))
  | .str, .lf (.int i) => gd (i.natAbs.log2 < 1920) (some (.s (toString i)))
  | .abs, .lf (.int i) => some (.i (if i < 0 then -i else i))
  | .max, .nd .lst _ ts => match intsOf ts with
    | some (n :: ns) => some (.i (ns.foldl (fun a b => if a < b then b else a) n))
    | _ => none
  | .min, .nd .lst _ ts => match intsOf ts with
    | some (n :: ns) => some (.i (ns.foldl (fun a b => if b < a then b else a) n))
    | _ => none
  | .sum, .nd .lst _ ts => match intsOf ts with
    | some ns => some (.i ns.sum)
    | none => none
  | .all, .nd .lst _ ts => match boolsOf ts with
    | some bs => some (.b (bs.all id))
    | none => none
  | .any, .nd .lst _ ts => match boolsOf ts with
    | some bs => some (.b (bs.any id))
    | none => none
  | _, _ => none
def blt2F : Bl → T → T → Option T
  | .max, .lf (.int i), .lf (.int j) => some (.i (if j > i then j else i))
  | .min, .lf (.int i), .lf (.int j) => some (.i (if j < i then j else i))
  | _, _, _ => none
noncomputable def isiF (p : Px) (t : T) (c : Ex) : Option T := match tagOf t, clsOf c with
  | some tg, some us => gd (okTags p tg us = true) (some (.b (us.any (isi tg))))
  | _, _ => none
noncomputable def isiQ (p : Px) (t : Option T) (c : Ex) : Option T := match t with
  | some t => isiF p t c
  | none => none
noncomputable def bltQ (b : Bl) (t : Option T) : Option T := match t with
  | some t => bltF b t
  | none => none
noncomputable def sliceF : T → Option Int → Option Int → Option T
  | .nd .lst _ ts, lo, hi => gd (ows ts = false) (some (.nd .lst true (cutL ts lo hi)))
  | .tup ts, lo, hi => gd (ows ts = false) (some (.tup (cutL ts lo hi)))
  | .lf (.str z), lo, hi => gd (z.length ≤ 16777216) (some (.s (cutS z lo hi)))
  | _, _, _ => none
noncomputable def mth0F : Mt → T → Option (T × T)
  | .pop0, .nd .lst true ts => match ts[ts.length - 1]? with
    | some y => some (.nd .lst true ts.dropLast, y)
    | none => none
  | _, _ => none
noncomputable def mth1F : Mt → T → T → Option (T × T)
  | .append, .nd .lst true ts, t => gd (ts.length < 16777216) (some (.nd .lst true (ts ++ [t]), .n))
  | .pop1, .nd .lst true ts, .lf (.int i) => gd (-(2 ^ 63) ≤ i ∧ i < 2 ^ 63) (match seqIndex? i ts.length with
    | some k => match ts[k]? with
      | some y => some (.nd .lst true (ts.eraseIdx k), y)
      | none => none
    | none => none)
  | .extend, .nd .lst true ts, .nd .lst _ us => gd (ts.length + us.length ≤ 16777216) (some (.nd .lst true (ts ++ us), .n))
  | _, _, _ => none
noncomputable def setF : T → T → T → Option T
  | .nd .lst true ts, .lf (.int k), t => match ixN ts.length k with
    | some j => some (.nd .lst true (ts.set j t))
    | none => none
  | .nd (.dct ks) true ts, k, t => match toKey k with
    | some k' => gd (ks.length < 16777216) (gd (ow t = false ∨ ks.Nodup) (some (.nd (.dct (putD ks ts k' t).1) true (putD ks ts k' t).2)))
    | none => none
  | _, _, _ => none
noncomputable def setFF (p : Px) (f : Str) (t : T) : T → Option T
  | .nd (.obj C fs) true ts => gd (okAt p C f = true) (gd (fs.length < 1000) (some (.nd (.obj C (putFd f t fs ts).1) true (putFd f t fs ts).2)))
  | _ => none
noncomputable def augF : Operator → T → T → Option T
  | .Add, .lf (.int i), .lf (.int j) => some (.i (i + j))
  | .Add, .lf (.str i), .lf (.str j) => gd (i.length + j.length ≤ 16777216) (some (.s (i ++ j)))
  | .Sub, .lf (.int i), .lf (.int j) => some (.i (i - j))
  | _, _, _ => none
mutual
def bindF : Tg → T → Ev → Option Ev
  | .one i, t, ρ => some (ρ.set i t)
  | .tup gs, t, ρ => match t with
    | .tup ts => bindFs gs ts ρ
    | _ => none
def bindFs : List Tg → List T → Ev → Option Ev
  | [], [], ρ => some ρ
  | g :: gs, t :: ts, ρ => match bindF g t ρ with
    | some ρ1 => bindFs gs ts ρ1
    | none => none
  | _ :: _, [], _ => none
  | [], _ :: _, _ => none
end
/-! ### frames -/
def vrw (m : Bool) (i : Nat) (ρ : Ev) (t : T) (u o : Bool) : Rs T := match u with
  | true => .bad
  | false => match o with
    | false => .ok t ρ
    | true => match m with
      | true => .ok t (ρ.set i .un)
      | false => .ok (fz t) (ρ.set i (fz t))
def vrd (m : Bool) (i : Nat) (ρ : Ev) : Option T → Rs T
  | some t => vrw m i ρ t (isUn t) (ow t)
  | none => .bad
/-- a value that is there and owned by nobody -/
def tkv (t : T) (u o : Bool) (ρ : Ev) : Rs T := match u, o with
  | false, false => .ok t ρ
  | _, _ => .bad
def tkq (ρ : Ev) : Option T → Rs T
  | some t => tkv t (isUn t) (ow t) ρ
  | none => .bad
/-- a slot that is there -/
def slv (u : Bool) (i : Nat) (ρ : Ev) : Rs Ag := match u with
  | false => .ok (.v i) ρ
  | true => .bad
def sld (i : Nat) (ρ : Ev) : Option T → Rs Ag
  | some t => slv (isUn t) i ρ
  | none => .bad
def callF (as : List Ag) (R : List T → Rc) : Option (List T × Ev) → Rs T
  | some (ts, ρ2) => match R ts with
    | .ok r os => .ok r (back as ts os ρ2)
    | .ex c e => .ex c e ρ2
    | .bad => .bad
  | none => .bad
def newK (as : List Ag) (ts : List T) (ρ2 : Ev) : Rc → Rs T
  | .ok r (o :: os) => match r, isUn o with
    | .lf .non, false => .ok o (back as ts os ρ2)
    | _, _ => .bad
  | .ok _ [] => .bad
  | .ex c e => .ex c e ρ2
  | .bad => .bad
def newF (c : Str) (as : List Ag) (R : List T → Rc) : Option (List T × Ev) → Rs T
  | some (ts, ρ2) => newK as ts ρ2 (R (.nd (.obj c []) true [] :: ts))
  | none => .bad
/-- an object of the class -/
def isObj (c mn : Str) : Option T → Bool
  | some (.nd (.obj C fs) _ _) => decide (C = c) && !fs.contains mn
  | _ => false
def okIf {α : Type} (k : Bool) (r : Rs α) : Rs α := match k with
  | true => r
  | false => .bad
def brE {α : Type} (k : Bool) (a b : Rs α) : Rs α := match k with
  | true => a
  | false => b
def mthK (j : Nat) (ρ : Ev) : Option (T × T) → Rs T
  | some (t', r) => .ok r (ρ.set j t')
  | none => .bad
def putK (p : Px) (o : Ex) (ρ : Ev) : Option (T × T) → Rs T
  | some (t', r) => match cput p o ρ t' with
    | some ρ1 => .ok r ρ1
    | none => .bad
  | none => .bad
def isLstQ : Option T → Bool
  | some t => isLst t
  | none => false
def thereQ : Option T → Bool
  | some t => !isUn t
  | none => false
def isDctQ : Option T → Bool
  | some t => isDct t
  | none => false
noncomputable def mth1Q (k : Mt) (t te : Option T) : Option (T × T) := match t, te with
  | some t, some te => gd (isUn t = false) (gd (ow te = false) (mth1F k t te))
  | _, _ => none
noncomputable def mth1V (k : Mt) (t : Option T) (te : T) : Option (T × T) := match t with
  | some t => gd (isUn t = false) (mth1F k t te)
  | none => none
noncomputable def mth0Q (k : Mt) (t : Option T) : Option (T × T) := match t with
  | some t => mth0F k t
  | none => none
/-- an item, of a value that stands in a slot -/
def idxV (t0 : Option T) (d : Bool) (ti : T) : Option T := match t0 with
  | some t0 => if isUn t0 = false ∧ isDct t0 = d then idxT t0 ti else none
  | none => none
def idxN (t0 ti : T) : Option T := if isDct t0 = false then idxT (fz t0) ti else none
noncomputable def sliceQ (t : Option T) (lo hi : Option Int) : Option T := match t with
  | some t => if isUn t = false then sliceF t lo hi else none
  | none => none
def intQ : T → Option (Option Int)
  | .lf (.int i) => some (some i)
  | _ => none
/-- .. an owned item lets the slot go -/
def fzI (j : Nat) (d : Bool) (ti : T) (ρ : Ev) : Option T → Rs T
  | some t0 => tkq (ρ.set j (fz t0)) (idxV (some (fz t0)) d ti)
  | none => .bad
def tkw (j : Nat) (d : Bool) (ti t : T) (u o : Bool) (ρ : Ev) : Rs T := match u with
  | true => .bad
  | false => match o with
    | false => .ok t ρ
    | true => fzI j d ti ρ ρ[j]?
def tkz (j : Nat) (d : Bool) (ti : T) (ρ : Ev) : Option T → Rs T
  | some t => tkw j d ti t (isUn t) (ow t) ρ
  | none => .bad
def lcF (step : T → List T → Ev → Rs (List T)) : List T → List T → Ev → Rs (List T)
  | [], acc, ρ => .ok acc ρ
  | t :: r, acc, ρ => (step t acc ρ).bd fun acc1 ρ1 => lcF step r acc1 ρ1
noncomputable def lcAdd (acc : List T) (y : T) (ρ : Ev) : Rs (List T) := rO (gd (acc.length < 16777216) (some (acc ++ [y]))) ρ
/-- what is walked, and the frame in which it is -/
noncomputable def itFz (k : Sk) (ts : List T) (ρ2 : Ev) (dv : Bool) : Option (List T) → Option (List T × List T × List T × Ev)
  | some its => gd (dv = false) (gd (isDct1 (fzs ts) = false) (gd (ows its = false) (some (its, ts, fzs ts, ρ2))))
  | none => none
/-- the items; where one is owned, what is walked is let go -/
noncomputable def itOw (k : Sk) (ts : List T) (ρ2 : Ev) (dv : Bool) (its : List T) (o : Bool) : Option (List T × List T × List T × Ev) := match o with
  | false => gd (isDct1 ts = dv) (some (its, ts, ts, ρ2))
  | true => itFz k ts ρ2 dv (itemsT k (fzs ts))
noncomputable def itQ (k : Sk) (ts : List T) (ρ2 : Ev) (dv : Bool) : Option (List T) → Option (List T × List T × List T × Ev)
  | some its => itOw k ts ρ2 dv its (ows its)
  | none => none
noncomputable def lcSrc (k : Sk) (own : List Nat) (tg : Tg) (dv : Bool) : Option (List T × Ev) → Option (List T × List T × List T × Ev)
  | some (ts, ρ2) => gd ((tgSl tg).all own.contains = true) (itQ k ts ρ2 dv (itemsT k ts))
  | none => none
abbrev FE := Bool → Ev → Rs T
abbrev FT := Ev → Rs Bool
def mkf (p : Px) (e : Ex) (v : FE) : FE × FT := (v, fun ρ => match quiet e with
  | true => truQ (cq p e ρ) ρ
  | false => (v false ρ).bd truE)
def agF (e : Ex) (v : Ev → Rs T) (ρ : Ev) : Rs Ag := match isVarE e with
  | some i => sld i ρ (ρ[i]?)
  | none => (v ρ).bd fun t ρ1 => .ok (.t t) ρ1
def ptF (e : Ex) (v : Ev → Rs T) (ρ : Ev) : Rs (Option Int) := match PL.isNon e with
  | true => .ok none ρ
  | false => (v ρ).bd fun t ρ1 => rO (intQ t) ρ1
mutual
noncomputable def f2 (p : Px) (R : RF) : Ex → FE × FT
  | .var i => mkf p (.var i) fun m ρ => vrd m i ρ (ρ[i]?)
  | .int i => mkf p (.int i) fun m ρ => .ok (.i i) ρ
  | .bl i => mkf p (.bl i) fun m ρ => .ok (.b i) ρ
  | .non => mkf p (.non) fun m ρ => .ok .n ρ
  | .str i => mkf p (.str i) fun m ρ => .ok (.s i) ρ
  | .ty i => mkf p (.ty i) fun m ρ => .ok (.lf (.ty i)) ρ
  | .cls i => mkf p (.cls i) fun m ρ => .ok (.cls i) ρ
  | .bin op a b => mkf p (.bin op a b) fun m ρ => ((f2 p R a).1 false ρ).bd fun ta ρ1 => ((f2 p R b).1 false ρ1).bd fun tb ρ2 => rO (binF op ta tb) ρ2
  | .neg a => mkf p (.neg a) fun m ρ => ((f2 p R a).1 false ρ).bd fun ta ρ1 => rO (negF ta) ρ1
  | .not a => (fun m ρ => match quiet a with
      | true => (truQ (cq p a ρ) ρ).bd fun k ρ1 => .ok (.b !k) ρ1
      | false => ((f2 p R a).1 false ρ).bd fun t ρ1 => rO (notF t) ρ1,
    fun ρ => ((f2 p R a).2 ρ).bd fun k ρ1 => .ok (!k) ρ1)
  | .and a b => (fun m ρ => ((f2 p R a).1 false ρ).bd fun t ρ1 => match truT t with
      | some true => (f2 p R b).1 false ρ1
      | some false => .ok t ρ1
      | none => .bad,
    fun ρ => ((f2 p R a).2 ρ).bd fun k ρ1 => match k with
      | true => (f2 p R b).2 ρ1
      | false => .ok false ρ1)
  | .or a b => (fun m ρ => ((f2 p R a).1 false ρ).bd fun t ρ1 => match truT t with
      | some true => .ok t ρ1
      | some false => (f2 p R b).1 false ρ1
      | none => .bad,
    fun ρ => ((f2 p R a).2 ρ).bd fun k ρ1 => match k with
      | true => .ok true ρ1
      | false => (f2 p R b).2 ρ1)
  | .ite c a b => (fun m ρ => ((f2 p R c).2 ρ).bd fun k ρ1 => match k with
      | true => (f2 p R a).1 m ρ1
      | false => (f2 p R b).1 m ρ1,
    fun ρ => ((f2 p R c).2 ρ).bd fun k ρ1 => match k with
      | true => (f2 p R a).2 ρ1
      | false => (f2 p R b).2 ρ1)
  | .cmp op a b => mkf p (.cmp op a b) fun m ρ => match quiet a && quiet b with
      | true => rO (cmpQ op (cq p a ρ) (cq p b ρ)) ρ
      | false => ((f2 p R a).1 false ρ).bd fun ta ρ1 => ((f2 p R b).1 false ρ1).bd fun tb ρ2 => rO (cmpF op ta tb) ρ2
  | .chain o1 o2 a b c => mkf p (.chain o1 o2 a b c) fun m ρ => ((f2 p R a).1 false ρ).bd fun ta ρ1 => ((f2 p R b).1 false ρ1).bd fun tb ρ2 => match cmpT o1 ta tb with
      | some true => ((f2 p R c).1 false ρ2).bd fun tc ρ3 => rO (cmpF o2 tb tc) ρ3
      | some false => .ok (.b false) ρ2
      | none => .bad
  | .lst es => mkf p (.lst es) fun m ρ => (fEs p R es m ρ).bd lstF
  | .tup es => mkf p (.tup es) fun m ρ => (fEs p R es m ρ).bd tupF
  | .dct ks vs => mkf p (.dct ks vs) fun m ρ => match ks.isEmpty with
      | true => .ok (.nd (.dct []) true []) ρ
      | false => (fDs p R ks (f1s p R vs) ρ).bd fun q ρ1 => dctF q.1 q.2 ρ1
  | .call f es => mkf p (.call f es) fun m ρ => (fAs p R es ρ).bd fun as ρ1 => callF as (R f) (lend as ρ1)
  | .new c f es => mkf p (.new c f es) fun m ρ => (fAs p R es ρ).bd fun as ρ1 => newF c as (R f) (lend as ρ1)
  | .meth c mn f o es => mkf p (.meth c mn f o es) fun m ρ => (agF o ((f2 p R o).1 false) ρ).bd fun a ρ1 => okIf (isObj c mn (agT a ρ1)) ((fAs p R es ρ1).bd fun as ρ2 => callF (a :: as) (R f) (lend (a :: as) ρ2))
  | .blt b es => mkf p (.blt b es) fun m ρ => match es with
    | [a] => (match quiet a with
      | true => rO (bltQ b (cq p a ρ)) ρ
      | false => ((f2 p R a).1 false ρ).bd fun t ρ1 => rO (bltF b (fz t)) ρ1)
    | [a, c] => (match b with
      | .isinst => (match quiet a with
        | true => rO (isiQ p (cq p a ρ) c) ρ
        | false => ((f2 p R a).1 false ρ).bd fun t ρ1 => rO (isiF p t c) ρ1)
      | _ => ((f2 p R a).1 false ρ).bd fun ta ρ1 => ((f2 p R c).1 false ρ1).bd fun tb ρ2 => rO (blt2F b ta tb) ρ2)
    | _ => .bad
  | .mth k o es => mkf p (.mth k o es) fun m ρ => match es with
    | [] => putK p o ρ (mth0Q k (cq p o ρ))
    | [e] => (match isVarE o with
      | some j => okIf (isLstQ ρ[j]? && isM1 k) (((f2 p R e).1 false ρ).bd fun te ρ1 => mthK j ρ1 (mth1V k ρ1[j]? te))
      | none => okIf (quiet e) (putK p o ρ (mth1Q k (cq p o ρ) (cq p e ρ))))
    | _ => .bad
  | .attr o f => mkf p (.attr o f) fun m ρ => match quiet o with
      | true => tkq ρ (cq p (.attr o f) ρ)
      | false => ((f2 p R o).1 false ρ).bd fun t ρ1 => tkq ρ1 (fldT p f (fz t))
  | .idx o i => mkf p (.idx o i) fun m ρ => match isVarE o with
    | some j => okIf (thereQ ρ[j]?) (((f2 p R i).1 false ρ).bd fun ti ρ1 => tkz j (isDctQ ρ[j]?) ti ρ1 (idxV ρ1[j]? (isDctQ ρ[j]?) ti))
    | none => (match quiet o && quiet i with
      | true => tkq ρ (cq p (.idx o i) ρ)
      | false => ((f2 p R o).1 false ρ).bd fun t0 ρ1 => ((f2 p R i).1 false ρ1).bd fun ti ρ2 => tkq ρ2 (idxN t0 ti))
  | .slc o lo hi => mkf p (.slc o lo hi) fun m ρ => match isVarE o with
    | some j => okIf (thereQ ρ[j]?) ((ptF lo ((f2 p R lo).1 false) ρ).bd fun l ρ1 => (ptF hi ((f2 p R hi).1 false) ρ1).bd fun h ρ2 => rO (sliceQ ρ2[j]? l h) ρ2)
    | none => ((f2 p R o).1 false ρ).bd fun t ρ0 => (ptF lo ((f2 p R lo).1 false) ρ0).bd fun l ρ1 => (ptF hi ((f2 p R hi).1 false) ρ1).bd fun h ρ2 => rO (sliceF (fz t) l h) ρ2
  | .lc el tg k ss cs own => mkf p (.lc el tg k ss cs own) fun m ρ0 => okIf (okSk k ss) ((fun ρ => (fAs p R ss ρ).bd fun as ρ1 => match lcSrc k own tg (dvar k ss ρ) (lend as ρ1) with
      | some (its, ts, us, ρ2) => (lcF (fun t acc ρ => match bindF tg t (wipeE ρ own) with
          | some ρ1 => (fCs p R cs ρ1).bd fun b ρ2 => (match b with
            | true => (((f2 p R el).1 false ρ2).nox).bd fun y ρ3 => lcAdd acc y ρ3
            | false => .ok acc ρ2)
          | none => .bad) its [] ρ2).bd fun acc ρ3 => .ok (.nd .lst true acc) (back as ts us (resE ρ2 own (wipeE ρ3 own)))
      | none => .bad) (pre (fun j => mens j (el :: cs)) ss ρ0))
  | .dc _ _ _ _ _ _ _ => (fun _ _ => .bad, fun _ => .bad)
noncomputable def fEs (p : Px) (R : RF) : List Ex → Bool → Ev → Rs (List T)
  | [], _, ρ => .ok [] ρ
  | e :: r, m, ρ => ((f2 p R e).1 (m && mvE e r) ρ).bd fun t ρ1 => (fEs p R r m ρ1).bd fun ts ρ2 => .ok (t :: ts) ρ2
noncomputable def fAs (p : Px) (R : RF) : List Ex → Ev → Rs (List Ag)
  | [], ρ => .ok [] ρ
  | e :: r, ρ => (agF e ((f2 p R e).1 false) ρ).bd fun a ρ1 => (fAs p R r ρ1).bd fun as ρ2 => .ok (a :: as) ρ2
noncomputable def fCs (p : Px) (R : RF) : List Ex → Ev → Rs Bool
  | [], ρ => .ok true ρ
  | e :: _, ρ => ((f2 p R e).2 ρ).nox
noncomputable def f1s (p : Px) (R : RF) : List Ex → List FE
  | [] => []
  | e :: r => (f2 p R e).1 :: f1s p R r
noncomputable def fDs (p : Px) (R : RF) : List Ex → List FE → Ev → Rs (List Key × List T)
  | k :: ks, vs, ρ => match vs with
    | v :: vs => ((f2 p R k).1 false ρ).bd fun tk ρ1 => match toKey tk with
      | some x => (v false ρ1).bd fun tv ρ2 => (fDs p R ks vs ρ2).bd fun q ρ3 => .ok (x :: q.1, tv :: q.2) ρ3
      | none => .bad
    | [] => .bad
  | [], vs, ρ => match vs with
    | [] => .ok ([], []) ρ
    | _ :: _ => .bad
end
/-! ### statements -/
inductive Fw where
  | nx (ρ : Ev) | rt (t : T) (ρ : Ev) | bk (ρ : Ev) | ct (ρ : Ev) | xc (c : Str) (e : T) (ρ : Ev) | bad
def Fw.post (o : Fw) (D : Ed) : Prop := match o with
  | .nx ρ => D.nx ρ
  | .rt t ρ => D.rt t ρ
  | .bk ρ => D.bk ρ
  | .ct ρ => D.ct ρ
  | .xc c e ρ => D.xc c e ρ
  | .bad => False
def Rs.bs {α : Type} (r : Rs α) (f : α → Ev → Fw) : Fw := match r with
  | .ok a ρ => f a ρ
  | .ex c e ρ => .xc c e ρ
  | .bad => .bad
def nxO : Option Ev → Fw
  | some ρ => .nx ρ
  | none => .bad
/-- one after another -/
def Fw.sq (o : Fw) (f : Ev → Fw) : Fw := match o with
  | .nx ρ => f ρ
  | o => o
/-- a turn's end -/
def Fw.tn (o : Fw) (f : Ev → Fw) : Fw := match o with
  | .nx ρ => f ρ
  | .ct ρ => f ρ
  | .bk ρ => .nx ρ
  | o => o
def fFor (g : Tg) (body : Ev → Fw) : List T → Ev → Fw
  | [], ρ => .nx ρ
  | t :: r, ρ => match bindF g t ρ with
    | some ρ1 => (body ρ1).tn fun ρ2 => fFor g body r ρ2
    | none => .bad
def fWn (c : Ev → Rs Bool) (body : Ev → Fw) : Nat → Ev → Fw
  | 0, _ => .bad
  | n + 1, ρ => (c ρ).bs fun k ρ1 => match k with
    | true => (body ρ1).tn fun ρ2 => fWn c body n ρ2
    | false => .nx ρ1
noncomputable def fWh (c : Ev → Rs Bool) (body : Ev → Fw) (ρ : Ev) : Fw := open Classical in if h : ∃ n, fWn c body n ρ ≠ .bad then fWn c body (choose h) ρ else .bad
def wrapF (as : List Ag) (ts us : List T) (dv : Bool) : Fw → Fw
  | .nx ρ => .nx (back as ts us ρ)
  | .rt r ρ => .rt r (back as ts us ρ)
  | .xc c e ρ => match dv with
    | false => .xc c e (back as ts us ρ)
    | true => .bad
  | _ => .bad
noncomputable def frSrc (k : Sk) (sl : List Nat) (as : List Ag) (dv : Bool) : Option (List T × Ev) → Option (List T × List T × List T × Ev)
  | some (ts, ρ2) => gd (keepA sl as ts = true) (itQ k ts ρ2 dv (itemsT k ts))
  | none => none
noncomputable def setV (j : Nat) (ρ : Ev) (t : Option T) (ti tv : T) : Fw := match t with
  | some t => (match setF t ti tv with
    | some t' => .nx (ρ.set j t')
    | none => .bad)
  | none => .bad
noncomputable def setQ (p : Px) (o : Ex) (ρ : Ev) (t ti : Option T) (tv : T) : Fw := match t, ti with
  | some t, some ti => (match setF t ti tv with
    | some t' => nxO (cput p o ρ t')
    | none => .bad)
  | _, _ => .bad
noncomputable def fldQ (p : Px) (o : Ex) (f : Str) (ρ : Ev) (t : Option T) (tv : T) : Fw := match t with
  | some t => (match setFF p f tv t with
    | some t' => nxO (cput p o ρ t')
    | none => .bad)
  | none => .bad
def augQ (tx : Option T) : Option T := match tx with
  | some t => if isUn t = false ∧ ow t = false then some t else none
  | none => none
def xdOf (fs : List Str) (ts : List T) : T := .nd (.xd fs) false ts
def xdAt (f : Str) : T → Option T
  | .nd (.xd fs) false ts => (match (fs.zip ts).lookup f with
    | some u => if ow u = false then some u else none
    | none => none)
  | _ => none
noncomputable def tryF (p : Px) (x : Str) (i : Nat) (w f : Str) : Fw → Fw
  | .xc c t ρ => (match p.exs.contains c with
    | true => (match c == x with
      | true => (match xdAt f t with
        | some u => (match gd (i < ρ.length) (some u) with
          | some u => .rt (.nd .lst true [.s w, u]) (ρ.set i .un)
          | none => .bad)
        | none => .bad)
      | false => .xc c t ρ)
    | false => .bad)
  | o => o
def raiseOk (p : Px) (x : Str) (fs : List Str) (n : Nat) : Bool := decide (fs.length = n) && decide (fs ≠ []) && decide (fs.length ≤ 900) && p.exs.contains x && fs.all fun g => p.noat.contains (x, g)
mutual
noncomputable def fS (p : Px) (R : RF) (XI : Nat → Option (List Str)) : Cm → Ev → Fw
  | .asg g e, ρ => ((f2 p R e).1 false ρ).bs fun v ρ1 => nxO (bindF g v ρ1)
  | .par2 i j a b, ρ => ((f2 p R a).1 false ρ).bs fun ta ρ1 => ((f2 p R b).1 false ρ1).bs fun tb ρ2 => .nx ((ρ2.set i ta).set j tb)
  | .par3 i j k a b c, ρ => ((f2 p R a).1 false ρ).bs fun ta ρ1 => ((f2 p R b).1 false ρ1).bs fun tb ρ2 => ((f2 p R c).1 false ρ2).bs fun tc ρ3 => .nx (((ρ3.set i ta).set j tb).set k tc)
  | .sub o i v, ρ => ((f2 p R v).1 false ρ).bs fun tv ρ1 => match isVarE o with
    | some j => (match thereQ ρ1[j]? with
      | true => ((f2 p R i).1 false ρ1).bs fun ti ρ2 => (match thereQ ρ2[j]? with
        | true => setV j ρ2 ρ2[j]? ti tv
        | false => .bad)
      | false => .bad)
    | none => setQ p o ρ1 (cq p o ρ1) (cq p i ρ1) tv
  | .fld o f v, ρ => ((f2 p R v).1 false ρ).bs fun tv ρ1 => fldQ p o f ρ1 (cq p o ρ1) tv
  | .aug i op e, ρ => match augQ ρ[i]? with
    | some tx => ((f2 p R e).1 false ρ).bs fun t ρ1 => (match augF op tx t with
      | some r => .nx (ρ1.set i r)
      | none => .bad)
    | none => .bad
  | .ex e, ρ => ((f2 p R e).1 false ρ).bs fun _ ρ1 => .nx ρ1
  | .ret e, ρ => ((f2 p R e).1 true ρ).bs fun t ρ1 => .rt t ρ1
  | .retn, ρ => .rt .n ρ
  | .ite c a b, ρ => ((f2 p R c).2 ρ).bs fun k ρ1 => match k with
    | true => fSs p R XI a ρ1
    | false => fSs p R XI b ρ1
  | .whl c b, ρ => fWh (f2 p R c).2 (fSs p R XI b) ρ
  | .fr g k ss b, ρ0 => match okSk k ss with
    | true => (fun ρ => (fAs p R ss ρ).bs fun as ρ1 => (match frSrc k (tgSl g ++ asgSs b) as (dvar k ss ρ) (lend as ρ1) with
      | some (its, ts, us, ρ2) => wrapF as ts us (dvar k ss ρ) (fFor g (fSs p R XI b) its ρ2)
      | none => .bad)) (pre (fun j => menCs j b) ss ρ0)
    | false => .bad
  | .raise x f es, ρ => match XI f with
    | some fs => (match raiseOk p x fs es.length with
      | true => (fEs p R es false ρ).bs fun ts ρ1 => .xc x (xdOf fs.reverse (fzs ts.reverse)) ρ1
      | false => .bad)
    | none => .bad
  | .tryAs b x i w f, ρ => match p.exs.contains x with
    | true => tryF p x i w f (fSs p R XI b ρ)
    | false => .bad
  | .pass, ρ => .nx ρ
  | .brk, ρ => .bk ρ
  | .cont, ρ => .ct ρ
noncomputable def fSs (p : Px) (R : RF) (XI : Nat → Option (List Str)) : List Cm → Ev → Fw
  | [], ρ => .nx ρ
  | s :: r, ρ => (fS p R XI s ρ).sq fun ρ1 => fSs p R XI r ρ1
end
/-! ### defs -/
def outK (np : Nat) (al : List Nat) : Fw → Rc
  | .nx ρ => .ok .n (outsL np al ρ)
  | .rt r ρ => .ok r (outsL np al ρ)
  | .xc c e _ => .ex c e
  | _ => .bad
noncomputable def run (p : Px) (Tb : List Fd) : Nat → RF
  | 0 => fun _ _ => .bad
  | n + 1 => fun i ts => match Tb[i]? with
    | some t => (match decide (ts.length = t.np) with
      | true => outK t.np (asgSs t.b) (fSs p (run p Tb n) (XIat Tb n) t.b (ts ++ List.replicate (t.N.length - t.np) .un))
      | false => .bad)
    | none => .bad
end PL
set_option Elab.async false
set_option linter.all false
set_option maxRecDepth 100000
set_option maxHeartbeats 4000000
namespace PL
open PySem PySem.Spec PyProof.Rows L2
section
variable {α β : Type} {p : Px} {R : RF} {Φ : CF} {X : CE0} {m : Bool} {ρ : Ev} {op : Operator} {a b t u : T}
theorem post_bd {r : Rs α} {f : α → Ev → Rs β} {Q : β → Ev → Prop} {Q2 : α → Ev → Prop} (h : (r.bd f).post Q X) (q : ∀ a ρ, (f a ρ).post Q X → Q2 a ρ) : r.post Q2 X := by
  cases r with
  | ok a ρ => exact q a ρ h
  | ex c e ρ => exact h
  | bad => exact h
theorem rO_post {o : Option α} {Q : α → Ev → Prop} (h : (rO o ρ).post Q X) : ∃ t, o = some t ∧ Q t ρ := by
  cases o with
  | none => exact h.elim
  | some t => exact ⟨t, rfl, h⟩
theorem nox_post {r : Rs α} {Q : α → Ev → Prop} (h : r.nox.post Q X) : r.post Q noX := by
  cases r with
  | ok a ρ => exact h
  | ex c e ρ => exact h.elim
  | bad => exact h
theorem okIf_post {k : Bool} {r : Rs α} {Q : α → Ev → Prop} (h : (okIf k r).post Q X) : k = true ∧ r.post Q X := by
  cases k with
  | true => exact ⟨rfl, h⟩
  | false => exact h.elim
theorem sz {n : Nat} (h : n ≤ 16777216) : n ≤ sizeLine := by rw [sizeLine_eq]; exact h
theorem szl {n : Nat} (h : n < 16777216) : n < sizeLine := by rw [sizeLine_eq]; exact h
theorem binF_ok {P : T → Prop} (h : binF op a b = some t) (q : P t) : PL.binT op a b P := by
  unfold binF at h
  split at h
  · cases h; exact q
  · obtain ⟨h1, h2⟩ := gd_some h; cases h2; exact ⟨sz h1, q⟩
  · obtain ⟨h1, h2⟩ := gd_some h; cases h2; exact ⟨sz h1, q⟩
  · obtain ⟨h1, h2⟩ := gd_some h; cases h2; exact ⟨sz h1, q⟩
  · cases h; exact q
  · obtain ⟨h1, h2⟩ := gd_some h; cases h2; exact ⟨h1, q⟩
  · obtain ⟨h1, h2⟩ := gd_some h
    obtain ⟨h3, h4⟩ := gd_some h2
    cases h4
    exact ⟨⟨h1.1, h1.2.1, sz h1.2.2, h3⟩, q⟩
  · obtain ⟨h1, h2⟩ := gd_some h; cases h2; exact ⟨h1, q⟩
  · obtain ⟨h1, h2⟩ := gd_some h; cases h2; exact ⟨h1, q⟩
  · obtain ⟨h1, h2⟩ := gd_some h; cases h2; exact ⟨h1, q⟩
  · cases h
theorem negF_ok (h : negF a = some t) : ∃ i, a = .i i ∧ t = .i (-i) := by
  unfold negF at h
  split at h
  · cases h; exact ⟨_, rfl, rfl⟩
  · cases h
theorem notF_ok (h : notF a = some t) : ∃ k, truT a = some k ∧ t = .b !k := by
  unfold notF at h
  split at h
  · cases h; exact ⟨_, ‹_›, rfl⟩
  · cases h
theorem cmpF_ok {op : CmpOp} (h : cmpF op a b = some t) : ∃ k, cmpT op a b = some k ∧ t = .b k := by
  unfold cmpF at h
  split at h
  · cases h; exact ⟨_, ‹_›, rfl⟩
  · cases h
theorem fold_max : ∀ (ns : List Int) (n : Int), (ns.foldl (fun a b => if a < b then b else a) n = n ∨ ns.foldl (fun a b => if a < b then b else a) n ∈ ns) ∧ n ≤ ns.foldl (fun a b => if a < b then b else a) n ∧ ∀ y ∈ ns, y ≤ ns.foldl (fun a b => if a < b then b else a) n
  | [], n => ⟨.inl rfl, Int.le_refl _, fun _ h => nomatch h⟩
  | x :: ns, n => by
    obtain ⟨h1, h2, h3⟩ := fold_max ns (if n < x then x else n)
    refine ⟨?_, ?_, ?_⟩
    · rw [List.foldl_cons]
      rcases h1 with h | h
      · rw [h]
        split
        · exact .inr List.mem_cons_self
        · exact .inl rfl
      · exact .inr (List.mem_cons_of_mem _ h)
    · rw [List.foldl_cons]
      refine Int.le_trans ?_ h2
      split <;> omega
    · intro y hy
      rw [List.foldl_cons]
      rcases List.mem_cons.mp hy with rfl | hy
      · refine Int.le_trans ?_ h2
        split <;> omega
      · exact h3 y hy
theorem fold_min : ∀ (ns : List Int) (n : Int), (ns.foldl (fun a b => if b < a then b else a) n = n ∨ ns.foldl (fun a b => if b < a then b else a) n ∈ ns) ∧ ns.foldl (fun a b => if b < a then b else a) n ≤ n ∧ ∀ y ∈ ns, ns.foldl (fun a b => if b < a then b else a) n ≤ y
  | [], n => ⟨.inl rfl, Int.le_refl _, fun _ h => nomatch h⟩
  | x :: ns, n => by
    obtain ⟨h1, h2, h3⟩ := fold_min ns (if x < n then x else n)
    refine ⟨?_, ?_, ?_⟩
    · rw [List.foldl_cons]
      rcases h1 with h | h
      · rw [h]
        split
        · exact .inr List.mem_cons_self
        · exact .inl rfl
      · exact .inr (List.mem_cons_of_mem _ h)
    · rw [List.foldl_cons]
      refine Int.le_trans h2 ?_
      split <;> omega
    · intro y hy
      rw [List.foldl_cons]
      rcases List.mem_cons.mp hy with rfl | hy
      · refine Int.le_trans h2 ?_
        split <;> omega
      · exact h3 y hy
theorem bltF_ok {k : Bl} {P : T → Prop} (h : bltF k a = some t) (q : P t) : bltT k a P := by
  unfold bltF at h
  split at h
  · split at h
    · cases h; exact ⟨_, ‹_›, q⟩
    · cases h
  · obtain ⟨h1, h2⟩ := gd_some h; cases h2; exact ⟨h1, q⟩
  · obtain ⟨h1, h2⟩ := gd_some h; cases h2; exact ⟨h1, q⟩
  · cases h; exact q
  · cases h; exact q
  · obtain ⟨h1, h2⟩ := gd_some h; cases h2; exact ⟨h1, q⟩
  · obtain ⟨h1, h2⟩ := gd_some h; cases h2; exact ⟨h1, q⟩
  · cases h; exact q
  · cases h; exact q
  · obtain ⟨h1, h2⟩ := gd_some h; cases h2; exact ⟨h1, q⟩
  · cases h; exact q
  · split at h
    · rename_i n ns hn
      cases h
      obtain ⟨f1, f2, f3⟩ := fold_max ns n
      refine ⟨_, hn, by simp, fun m hm hy => ?_⟩
      have e : m = ns.foldl (fun a b => if a < b then b else a) n := by
        refine Int.le_antisymm ?_ (hy _ ?_)
        · rcases List.mem_cons.mp hm with rfl | hm
          · exact f2
          · exact f3 m hm
        · rcases f1 with f1 | f1
          · rw [f1]; exact List.mem_cons_self
          · exact List.mem_cons_of_mem _ f1
      rw [e]
      exact q
    · cases h
  · split at h
    · rename_i n ns hn
      cases h
      obtain ⟨f1, f2, f3⟩ := fold_min ns n
      refine ⟨_, hn, by simp, fun m hm hy => ?_⟩
      have e : m = ns.foldl (fun a b => if b < a then b else a) n := by
        refine Int.le_antisymm (hy _ ?_) ?_
        · rcases f1 with f1 | f1
          · rw [f1]; exact List.mem_cons_self
          · exact List.mem_cons_of_mem _ f1
        · rcases List.mem_cons.mp hm with rfl | hm
          · exact f2
          · exact f3 m hm
      rw [e]
      exact q
    · cases h
  · split at h
    · cases h; exact ⟨_, ‹_›, q⟩
    · cases h
  · split at h
    · cases h; exact ⟨_, ‹_›, q⟩
    · cases h
  · split at h
    · cases h; exact ⟨_, ‹_›, q⟩
    · cases h
  · cases h
theorem blt2F_ok {k : Bl} {P : T → Prop} (h : blt2F k a b = some t) (q : P t) : blt2T k a b P := by
  unfold blt2F at h
  split at h
  · cases h; exact q
  · cases h; exact q
  · cases h
theorem isiF_ok {c : Ex} (h : isiF p a c = some t) : ∃ tg us, tagOf a = some tg ∧ clsOf c = some us ∧ okTags p tg us = true ∧ t = .b (us.any (isi tg)) := by
  unfold isiF at h
  split at h
  · obtain ⟨h1, h2⟩ := gd_some h; cases h2; exact ⟨_, _, ‹_›, ‹_›, h1, rfl⟩
  · cases h
theorem sliceF_ok {lo hi : Option Int} {P : T → Prop} (h : sliceF a lo hi = some t) (q : P t) : sliceT a lo hi P := by
  unfold sliceF at h
  split at h
  · obtain ⟨h1, h2⟩ := gd_some h; cases h2; exact ⟨h1, q⟩
  · obtain ⟨h1, h2⟩ := gd_some h; cases h2; exact ⟨h1, q⟩
  · obtain ⟨h1, h2⟩ := gd_some h; cases h2; exact ⟨sz h1, q⟩
  · cases h
theorem mth0F_ok {k : Mt} {q : T × T} {P : T → T → Prop} (h : mth0F k a = some q) (hp : P q.1 q.2) : mth0T k a P := by
  unfold mth0F at h
  split at h
  · split at h
    · cases h; exact ⟨_, ‹_›, hp⟩
    · cases h
  · cases h
theorem mth1F_ok {k : Mt} {q : T × T} {P : T → T → Prop} (h : mth1F k a b = some q) (hp : P q.1 q.2) : mth1T k a b P := by
  unfold mth1F at h
  split at h
  · obtain ⟨h1, h2⟩ := gd_some h; cases h2; exact ⟨szl h1, hp⟩
  · obtain ⟨h1, h2⟩ := gd_some h
    split at h2
    · split at h2
      · cases h2; exact ⟨_, _, h1.1, h1.2, ‹_›, ‹_›, hp⟩
      · cases h2
    · cases h2
  · obtain ⟨h1, h2⟩ := gd_some h; cases h2; exact ⟨sz h1, hp⟩
  · cases h
theorem stF_ok {P : T → Prop} {v : T} (h : setF a b v = some t) (q : P t) : setT a b v P := by
  unfold setF at h
  split at h
  · split at h
    · cases h; exact ⟨_, ‹_›, q⟩
    · cases h
  · rename_i ks ts
    split at h
    · rename_i k' hk
      obtain ⟨h1, h2⟩ := gd_some h
      obtain ⟨h3, h4⟩ := gd_some h2
      cases h4
      unfold setT
      exact ⟨k', hk, szl h1, h3, q⟩
    · cases h
  · cases h
theorem setFF_ok {P : T → Prop} {f : Str} {v : T} (h : setFF p f v a = some t) (q : P t) : setFT p f v a P := by
  unfold setFF at h
  split at h
  · obtain ⟨h1, h2⟩ := gd_some h
    obtain ⟨h3, h4⟩ := gd_some h2
    cases h4
    exact ⟨h1, h3, q⟩
  · cases h
theorem augF_ok {P : T → Prop} (h : augF op a b = some t) (q : P t) : augT op a b P := by
  unfold augF at h
  split at h
  · cases h; exact q
  · obtain ⟨h1, h2⟩ := gd_some h; cases h2; exact ⟨sz h1, q⟩
  · cases h; exact q
  · cases h
mutual
theorem bindF_ok : ∀ (g : Tg) {t : T} {ρ ρ1 : Ev} {P : Ev → Prop}, bindF g t ρ = some ρ1 → P ρ1 → bindT g t ρ P
  | .one i, t, ρ, ρ1, P, h, q => by cases h; exact q
  | .tup gs, t, ρ, ρ1, P, h, q => by
    unfold bindF at h
    split at h
    · exact bindFs_ok gs h q
    · cases h
theorem bindFs_ok : ∀ (gs : List Tg) {ts : List T} {ρ ρ1 : Ev} {P : Ev → Prop}, bindFs gs ts ρ = some ρ1 → P ρ1 → ts.length = gs.length ∧ bindTs gs ts ρ P
  | [], [], ρ, ρ1, P, h, q => by cases h; exact ⟨rfl, q⟩
  | g :: gs, t :: ts, ρ, ρ1, P, h, q => by
    unfold bindFs at h
    split at h
    · rename_i ρ2 e
      obtain ⟨l, h2⟩ := bindFs_ok gs h q
      exact ⟨by simpa using l, bindF_ok g e h2⟩
    · cases h
  | _ :: _, [], _, _, _, h, _ => by cases h
  | [], _ :: _, _, _, _, h, _ => by cases h
end
def ROk (R : RF) (Φ : CF) : Prop := ∀ f ts Q X, (R f ts).post Q X → Φ f ts Q X
def FOk (p : Px) (R : RF) (Φ : CF) (e : Ex) : Prop := (∀ m ρ Q X, ((f2 p R e).1 m ρ).post Q X → (c2 p Φ e).1 X m ρ Q) ∧ ∀ ρ Q X, ((f2 p R e).2 ρ).post Q X → (c2 p Φ e).2 X ρ Q
theorem mk_ok {e : Ex} {v : FE} {v' : VE} (hf : f2 p R e = mkf p e v) (hc : c2 p Φ e = mk2 p e v') (h : ∀ m ρ Q X, (v m ρ).post Q X → v' X m ρ Q) : FOk p R Φ e := by
  unfold FOk
  rw [hf, hc]
  refine ⟨h, fun ρ Q X hq => ?_⟩
  change (match quiet e with
    | true => truQ (cq p e ρ) ρ
    | false => (v false ρ).bd truE).post Q X at hq
  show if quiet e = true then _ else _
  cases hk : quiet e with
  | true =>
    rw [hk] at hq
    rw [if_pos rfl]
    change (truQ (cq p e ρ) ρ).post Q X at hq
    cases hc : cq p e ρ with
    | none => rw [hc] at hq; exact hq.elim
    | some t =>
      rw [hc] at hq
      obtain ⟨k, h1, h2⟩ := rO_post hq
      exact ⟨t, rfl, k, h1, h2⟩
  | false =>
    rw [hk] at hq
    rw [if_neg (by decide)]
    exact h _ _ _ _ (post_bd hq fun t ρ1 h1 => rO_post h1)
theorem agF_ok {e : Ex} (he : FOk p R Φ e) {Q : Ag → Ev → Prop} (h : (agF e ((f2 p R e).1 false) ρ).post Q X) : agE e ((c2 p Φ e).1 X false) ρ Q := by
  unfold agF at h
  unfold agE
  split at h
  · rename_i i hi
    try rw [hi]
    unfold sld at h
    split at h
    · rename_i t ht
      unfold slv at h
      split at h
      · exact ⟨⟨t, ht, ‹_›⟩, h⟩
      · exact h.elim
    · exact h.elim
  · rename_i hi
    try rw [hi]
    exact he.1 _ _ _ _ (post_bd h fun t ρ1 h1 => h1)
theorem fAs_ok : ∀ {es : List Ex}, (∀ e ∈ es, FOk p R Φ e) → ∀ {ρ : Ev} {Q : List Ag → Ev → Prop}, (fAs p R es ρ).post Q X → cAs p Φ es X ρ Q
  | [], _, ρ, Q, h => h
  | e :: es, he, ρ, Q, h => agF_ok (he e List.mem_cons_self) (post_bd h fun a ρ1 h1 => fAs_ok (fun e' m => he e' (List.mem_cons_of_mem _ m)) (post_bd h1 fun as ρ2 h2 => h2))
theorem fEs_ok : ∀ {es : List Ex}, (∀ e ∈ es, FOk p R Φ e) → ∀ {ρ : Ev} {Q : List T → Ev → Prop}, (fEs p R es m ρ).post Q X → cEs p Φ es X m ρ Q
  | [], _, ρ, Q, h => h
  | e :: es, he, ρ, Q, h => (he e List.mem_cons_self).1 _ _ _ _ (post_bd h fun a ρ1 h1 => fEs_ok (fun e' m => he e' (List.mem_cons_of_mem _ m)) (post_bd h1 fun as ρ2 h2 => h2))
theorem fCs_ok {es : List Ex} (he : ∀ e ∈ es, FOk p R Φ e) {Q : Bool → Ev → Prop} (h : (fCs p R es ρ).post Q X) : cCs p Φ es ρ Q := by
  cases es with
  | nil => exact h
  | cons e es => exact (he e List.mem_cons_self).2 _ _ _ (nox_post h)
theorem fDs_ok : ∀ {ks vs : List Ex}, (∀ e ∈ ks, FOk p R Φ e) → (∀ e ∈ vs, FOk p R Φ e) → ∀ {ρ : Ev} {Q : List Key × List T → Ev → Prop}, (fDs p R ks (f1s p R vs) ρ).post Q X → cDs p Φ ks (c1s p Φ vs) X ρ fun xs ts ρ1 => Q (xs, ts) ρ1
  | [], [], _, _, ρ, Q, h => ⟨rfl, h⟩
  | [], v :: vs, _, _, ρ, Q, h => h.elim
  | k :: ks, [], _, _, ρ, Q, h => h.elim
  | k :: ks, v :: vs, hk, hv, ρ, Q, h => by
    refine (hk k List.mem_cons_self).1 _ _ _ _ (post_bd h fun tk ρ1 h1 => ?_)

    split at h1
    · rename_i x hx
      refine ⟨x, hx, (hv v List.mem_cons_self).1 _ _ _ _ (post_bd h1 fun tv ρ2 h2 => ?_)⟩
      exact fDs_ok (Q := fun q ρ3 => Q (x :: q.1, tv :: q.2) ρ3) (fun e m => hk e (List.mem_cons_of_mem _ m)) (fun e m => hv e (List.mem_cons_of_mem _ m)) (post_bd h2 fun q ρ3 h3 => h3)
    · exact h1.elim
theorem callF_ok {as : List Ag} {f : Nat} (hR : ROk R Φ) {o : Option (List T × Ev)} {Q : T → Ev → Prop} (h : (callF as (R f) o).post Q X) : ∃ ts ρ2, o = some (ts, ρ2) ∧ Φ f ts (fun r os => Q r (back as ts os ρ2)) fun c t => X c t ρ2 := by
  unfold callF at h
  split at h
  · rename_i ts ρ2
    refine ⟨ts, ρ2, rfl, hR _ _ _ _ ?_⟩
    split at h
    · rename_i e; rw [e]; exact h
    · rename_i e; rw [e]; exact h
    · exact h.elim
  · exact h.elim
theorem newF_ok {as : List Ag} {f : Nat} {c : Str} (hR : ROk R Φ) {o : Option (List T × Ev)} {Q : T → Ev → Prop} (h : (newF c as (R f) o).post Q X) :
    ∃ ts ρ2, o = some (ts, ρ2) ∧ Φ f (.nd (.obj c []) true [] :: ts) (fun r os => r = .n ∧ ∃ o os', os = o :: os' ∧ isUn o = false ∧ Q o (back as ts os' ρ2)) fun c t => X c t ρ2 := by
  unfold newF at h
  split at h
  · rename_i ts ρ2
    refine ⟨ts, ρ2, rfl, hR _ _ _ _ ?_⟩
    unfold newK at h
    split at h
    · rename_i r o os e
      rw [e]

      split at h
      · rename_i hu
        exact ⟨rfl, o, os, rfl, hu, h⟩
      · exact h.elim
    · exact h.elim
    · rename_i e; rw [e]; exact h
    · exact h.elim
  · exact h.elim
theorem tkq_ok {o : Option T} {Q : T → Ev → Prop} (h : (tkq ρ o).post Q X) : ∃ t, o = some t ∧ isUn t = false ∧ ow t = false ∧ Q t ρ := by
  unfold tkq at h
  split at h
  · rename_i t
    unfold tkv at h
    split at h
    · exact ⟨t, rfl, ‹_›, ‹_›, h⟩
    · exact h.elim
  · exact h.elim
theorem ptF_ok {e : Ex} (he : FOk p R Φ e) {Q : Option Int → Ev → Prop} (h : (ptF e ((f2 p R e).1 false) ρ).post Q X) : ptE e ((c2 p Φ e).1 X false) ρ Q := by
  unfold ptF at h
  unfold ptE
  split at h
  · rename_i hn
    rw [if_pos hn]; exact h
  · rename_i hn
    rw [if_neg (by rw [hn]; decide)]
    refine he.1 _ _ _ _ (post_bd h fun t ρ1 h1 => ?_)
    obtain ⟨o, e1, h2⟩ := rO_post h1
    unfold intQ at e1
    split at e1
    · cases e1; exact ⟨_, rfl, h2⟩
    · cases e1
theorem mth1Q_ok {k : Mt} {q : T × T} {ta te : Option T} (h : mth1Q k ta te = some q) : ∃ t u, ta = some t ∧ te = some u ∧ ow u = false ∧ mth1F k t u = some q := by
  unfold mth1Q at h
  split at h
  · obtain ⟨h1, h2⟩ := gd_some h
    obtain ⟨h3, h4⟩ := gd_some h2
    exact ⟨_, _, rfl, rfl, h3, h4⟩
  · cases h
theorem putK_ok {o : Ex} {q : Option (T × T)} {Q : T → Ev → Prop} (h : (putK p o ρ q).post Q X) : ∃ t' r ρ1, q = some (t', r) ∧ cput p o ρ t' = some ρ1 ∧ Q r ρ1 := by
  unfold putK at h
  split at h
  · split at h
    · exact ⟨_, _, _, rfl, ‹_›, h⟩
    · exact h.elim
  · exact h.elim
theorem thereQ_ok {o : Option T} (h : thereQ o = true) : ∃ t, o = some t ∧ isUn t = false := by
  cases o with
  | none => cases h
  | some t => exact ⟨t, rfl, by simpa [thereQ] using h⟩
end
end PL
set_option Elab.async false
set_option linter.all false
set_option maxRecDepth 100000
set_option maxHeartbeats 4000000
namespace PL
open PySem PySem.Spec PyProof.Rows L2
section
variable {p : Px} {R : RF} {Φ : CF}
theorem lcF_ok {X : CE0} {step : T → List T → Ev → Rs (List T)} {step' : T → List T → Ev → (List T → Ev → Prop) → Prop} {Q : List T → Ev → Prop} (hs : ∀ t acc ρ Q, (step t acc ρ).post Q X → step' t acc ρ Q) :
    ∀ (its acc : List T) (ρ : Ev), (lcF step its acc ρ).post Q X → lcLoop step' its acc ρ Q
  | [], acc, ρ, h => h
  | t :: r, acc, ρ, h => hs _ _ _ _ (post_bd h fun acc1 ρ1 h1 => lcF_ok hs r acc1 ρ1 h1)
theorem itQ_ok {k : Sk} {ts its ts' us : List T} {ρ2 ρ2' : Ev} {dv : Bool} (h : itQ k ts ρ2 dv (itemsT k ts) = some (its, ts', us, ρ2')) : ts' = ts ∧ ρ2' = ρ2 ∧ (us = ts ∨ (dv = false ∧ us = fzs ts)) ∧ isDct1 us = dv ∧ itemsT k us = some its ∧ ows its = false := by
  unfold itQ at h
  split at h
  · rename_i its0 hi
    unfold itOw at h
    split at h
    · rename_i ho
      obtain ⟨e1, e⟩ := gd_some h
      cases e
      exact ⟨rfl, rfl, .inl rfl, e1, hi, ho⟩
    · unfold itFz at h
      split at h
      · rename_i its1 hi1
        obtain ⟨e1, h⟩ := gd_some h
        obtain ⟨e2, h⟩ := gd_some h
        obtain ⟨e3, h⟩ := gd_some h
        cases h
        exact ⟨rfl, rfl, .inr ⟨e1, rfl⟩, by rw [e2, e1], hi1, e3⟩
      · cases h
  · cases h
theorem xlc_ok {el : Ex} {tg : Tg} {k : Sk} {ss cs : List Ex} {own : List Nat} (he : FOk p R Φ el) (hss : ∀ e ∈ ss, FOk p R Φ e) (hcs : ∀ e ∈ cs, FOk p R Φ e) : FOk p R Φ (.lc el tg k ss cs own) := by
  refine mk_ok rfl rfl fun m ρ Q X h => ?_
  obtain ⟨h1, h2⟩ := okIf_post h
  refine ⟨h1, _, rfl, fAs_ok hss (post_bd h2 fun as ρ1 h3 => ?_)⟩
  split at h3
  · rename_i its ts us ρ2 e
    unfold lcSrc at e
    split at e
    · rename_i ts' ρ2' hl
      · obtain ⟨e3, e⟩ := gd_some e
        obtain ⟨rfl, rfl, e0, e1, hi, e2⟩ := itQ_ok e
        refine ⟨_, _, us, hl, e0, e1, its, hi, e2, e3, ?_⟩
        refine lcF_ok (X := X) ?_ its [] ρ2 (Q := fun acc ρ3 => Q (.nd .lst true acc) (back as ts us (resE ρ2 own (wipeE ρ3 own)))) (post_bd h3 fun acc ρ3 h4 => h4)
        intro t acc ρ Q h
        split at h
        · rename_i ρb hb
          refine bindF_ok tg hb ?_
          cases cs with
          | nil => 
            change ((Rs.nox ((f2 p R el).1 false ρb)).bd fun y ρ3 => lcAdd acc y ρ3).post Q X at h
            unfold cCs
            dsimp only
            rw [if_pos rfl]
            refine he.1 _ _ _ _ (nox_post (post_bd h fun y ρ3 h5 => ?_))
            obtain ⟨t1, e4, e5⟩ := rO_post h5
            obtain ⟨e6, e7⟩ := gd_some e4
            cases e7
            exact ⟨szl e6, e5⟩
          | cons c cs =>
            refine (hcs c List.mem_cons_self).2 _ _ _ (nox_post (post_bd h fun b ρ2 h4 => ?_))
            split at h4
            · rw [if_pos rfl]
              refine he.1 _ _ _ _ (nox_post (post_bd h4 fun y ρ3 h5 => ?_))
              obtain ⟨t1, e4, e5⟩ := rO_post h5
              obtain ⟨e6, e7⟩ := gd_some e4
              cases e7
              exact ⟨szl e6, e5⟩
            · rw [if_neg (by decide)]
              exact h4
        · exact h.elim
    · cases e
  · exact h3.elim
theorem xblt_ok {b : Bl} {es : List Ex} (hes : ∀ e ∈ es, FOk p R Φ e) : FOk p R Φ (.blt b es) := by
  refine mk_ok (by unfold f2; rfl) (by unfold c2; rfl) fun m ρ Q X h => ?_
  split at h
  · rename_i a
    have ha := hes a List.mem_cons_self
    split at h
    · rename_i hq
      obtain ⟨t, h1, h2⟩ := rO_post h
      cases hc : cq p a ρ with
      | none => rw [hc] at h1; cases h1
      | some u =>
        rw [hc] at h1
        show if quiet a = true then _ else _
        rw [if_pos hq]
        first | exact ⟨u, hc, bltF_ok h1 h2⟩ | exact ⟨u, rfl, bltF_ok h1 h2⟩
    · rename_i hq
      show if quiet a = true then _ else _
      rw [if_neg (by rw [hq]; decide)]
      refine ha.1 _ _ _ _ (post_bd h fun t ρ1 h1 => ?_)
      obtain ⟨u, h2, h3⟩ := rO_post h1
      exact bltF_ok h2 h3
  · rename_i a c
    have ha := hes a List.mem_cons_self
    have hc := hes c (List.mem_cons_of_mem _ List.mem_cons_self)
    split at h
    · show if Bl.isinst = Bl.isinst then _ else _
      rw [if_pos rfl]
      split at h
      · rename_i hq
        rw [if_pos hq]
        obtain ⟨t, h1, h2⟩ := rO_post h
        cases hc : cq p a ρ with
        | none => rw [hc] at h1; cases h1
        | some u =>
          rw [hc] at h1
          obtain ⟨tg, us, e1, e2, e3, rfl⟩ := isiF_ok h1
          exact ⟨u, tg, us, rfl, e1, e2, e3, h2⟩
      · rename_i hq
        rw [if_neg (by rw [hq]; decide)]
        refine ha.1 _ _ _ _ (post_bd h fun t ρ1 h1 => ?_)
        obtain ⟨u, h2, h3⟩ := rO_post h1
        obtain ⟨tg, us, e1, e2, e3, rfl⟩ := isiF_ok h2
        exact ⟨tg, us, e1, e2, e3, h3⟩
    · rename_i hne
      show if b = Bl.isinst then _ else _
      rw [if_neg hne]
      refine ha.1 _ _ _ _ (post_bd h fun ta ρ1 h1 => hc.1 _ _ _ _ (post_bd h1 fun tb ρ2 h2 => ?_))
      obtain ⟨u, h3, h4⟩ := rO_post h2
      exact blt2F_ok h3 h4
  · exact h.elim
theorem xmth_ok {k : Mt} {o : Ex} {es : List Ex} (hes : ∀ e ∈ es, FOk p R Φ e) : FOk p R Φ (.mth k o es) := by
  refine mk_ok (by unfold f2; rfl) (by unfold c2; rfl) fun m ρ Q X h => ?_
  split at h
  · obtain ⟨t', r, ρ1, h1, h2, h3⟩ := putK_ok h
    unfold mth0Q at h1
    split at h1
    · rename_i t ht
      exact ⟨t, ht, mth0F_ok h1 ⟨ρ1, h2, h3⟩⟩
    · cases h1
  · rename_i e
    have he := hes e List.mem_cons_self
    split at h
    · rename_i j hj
      obtain ⟨h1, h2⟩ := okIf_post h
      obtain ⟨h1, h3⟩ := Bool.and_eq_true_iff.mp h1
      try dsimp only
      try rw [hj]
      refine ⟨?_, h3, he.1 _ _ _ _ (post_bd h2 fun te ρ1 h4 => ?_)⟩
      · unfold isLstQ at h1
        split at h1
        · exact ⟨_, ‹_›, h1⟩
        · cases h1
      · unfold mthK at h4
        split at h4
        · rename_i t' r hm
          unfold mth1V at hm
          split at hm
          · rename_i t ht
            obtain ⟨g1, g2⟩ := gd_some hm
            exact ⟨t, ht, g1, mth1F_ok g2 h4⟩
          · cases hm
        · exact h4.elim
    · rename_i hj
      obtain ⟨h1, h2⟩ := okIf_post h
      obtain ⟨t', r, ρ1, h3, h4, h5⟩ := putK_ok h2
      obtain ⟨t, u, e1, e2, e3, e4⟩ := mth1Q_ok h3
      try dsimp only
      try rw [hj]
      exact ⟨u, h1, e2, e3, t, e1, mth1F_ok e4 ⟨ρ1, h4, h5⟩⟩
  · exact h.elim
theorem xidx_ok {o i : Ex} (ho : FOk p R Φ o) (hi : FOk p R Φ i) : FOk p R Φ (.idx o i) := by
  refine mk_ok rfl rfl fun m ρ Q X h => ?_
  split at h
  · rename_i j hj
    obtain ⟨h1, h2⟩ := okIf_post h
    try dsimp only
    try rw [hj]
    obtain ⟨tj, e1, e2⟩ := thereQ_ok h1
    refine ⟨tj, e1, e2, hi.1 _ _ _ _ (post_bd h2 fun ti ρ1 h3 => ?_)⟩
    unfold tkz at h3
    split at h3
    · rename_i t g1
      unfold idxV at g1
      split at g1
      · rename_i t0 ht0
        split at g1
        · rename_i hc
          rw [e1] at hc
          unfold tkw at h3
          split at h3
          · exact h3.elim
          · rename_i g2
            split at h3
            · rename_i g3
              exact ⟨t0, t, ht0, hc.1, hc.2, g2, g3, .inl ⟨g1, h3⟩⟩
            · rw [ht0] at h3
              unfold fzI at h3
              dsimp only at h3
              obtain ⟨t', g4, g5, g6, g7⟩ := tkq_ok h3
              unfold idxV at g4
              dsimp only at g4
              split at g4
              · exact ⟨t0, t', ht0, hc.1, hc.2, g5, g6, .inr ⟨g4, g7⟩⟩
              · cases g4
        · cases g1
      · cases g1
    · exact h3.elim
  · rename_i hj
    try dsimp only
    try rw [hj]
    split at h
    · rename_i hq
      try dsimp only
      rw [if_pos hq]
      obtain ⟨t, g1, g2, g3, g4⟩ := tkq_ok h
      exact ⟨t, g1, g3, g4⟩
    · rename_i hq
      try dsimp only
      rw [if_neg (by rw [hq]; decide)]
      refine ho.1 _ _ _ _ (post_bd h fun t0 ρ1 h1 => hi.1 _ _ _ _ (post_bd h1 fun ti ρ2 h2 => ?_))
      obtain ⟨t, g1, g2, g3, g4⟩ := tkq_ok h2
      unfold idxN at g1
      split at g1
      · exact ⟨t, ‹_›, g1, g2, g3, g4⟩
      · cases g1
theorem xattr_ok {o : Ex} {f : Str} (ho : FOk p R Φ o) : FOk p R Φ (.attr o f) := by
  refine mk_ok rfl rfl fun m ρ Q X h => ?_
  split at h
  · rename_i hq
    try dsimp only
    rw [if_pos hq]
    obtain ⟨t, g1, g2, g3, g4⟩ := tkq_ok h
    exact ⟨t, g1, g3, g4⟩
  · rename_i hq
    try dsimp only
    rw [if_neg (by rw [hq]; decide)]
    refine ho.1 _ _ _ _ (post_bd h fun t ρ1 h1 => ?_)
    obtain ⟨u, g1, g2, g3, g4⟩ := tkq_ok h1
    exact ⟨u, g1, g2, g3, g4⟩
theorem ptF_none {e : Ex} {ρ : Ev} {v : Ev → Rs T} (h : PL.isNon e = true) : ptF e v ρ = .ok none ρ := by
  unfold ptF
  rw [h]
theorem ptF_some {e : Ex} {ρ : Ev} {v : Ev → Rs T} (h : PL.isNon e = false) : ptF e v ρ = (v ρ).bd fun t ρ1 => rO (intQ t) ρ1 := by
  unfold ptF
  rw [h]
theorem intQ_ok {t : T} {o : Option Int} (h : intQ t = some o) : ∃ i, t = .i i ∧ o = some i := by
  unfold intQ at h
  split at h
  · cases h; exact ⟨_, rfl, rfl⟩
  · cases h
theorem xslc_ok {o lo hi : Ex} (ho : FOk p R Φ o) (hl : FOk p R Φ lo) (hh : FOk p R Φ hi) : FOk p R Φ (.slc o lo hi) := by
  refine mk_ok rfl rfl fun m ρ Q X h => ?_
  split at h
  · rename_i j hj
    try dsimp only
    try rw [hj]
    obtain ⟨h1, h2⟩ := okIf_post h
    refine ⟨thereQ_ok h1, ?_⟩
    have fin : ∀ {l hh : Option Int} {ρ2 : Ev}, (rO (sliceQ ρ2[j]? l hh) ρ2).post Q X → ∃ t, ρ2[j]? = some t ∧ isUn t = false ∧ sliceT t l hh fun r => Q r ρ2 := by
      intro l hh ρ2 h
      obtain ⟨t, g1, g2⟩ := rO_post h
      unfold sliceQ at g1
      split at g1
      · rename_i t0 ht0
        split at g1
        · exact ⟨t0, ht0, ‹_›, sliceF_ok g1 g2⟩
        · cases g1
      · cases g1
    cases hn : PL.isNon lo with
    | true =>
      rw [if_pos rfl]
      rw [ptF_none hn] at h2
      exact ptF_ok hh (post_bd h2 fun t ρ1 h3 => fin h3)
    | false =>
      rw [if_neg (by decide)]
      rw [ptF_some hn] at h2
      refine hl.1 _ _ _ _ (post_bd (post_bd h2 fun o ρ1 h3 => h3) fun t ρ1 h3 => ?_)
      obtain ⟨o, e1, h4⟩ := rO_post h3
      obtain ⟨i, rfl, rfl⟩ := intQ_ok e1
      exact ⟨i, rfl, ptF_ok hh (post_bd h4 fun t ρ1 h3 => fin h3)⟩
  · rename_i hj
    try dsimp only
    try rw [hj]
    refine ho.1 _ _ _ _ (post_bd h fun t0 ρ0 h2 => ?_)
    have fin : ∀ {l hh : Option Int} {ρ2 : Ev}, (rO (sliceF (fz t0) l hh) ρ2).post Q X → sliceT (fz t0) l hh fun r => Q r ρ2 := by
      intro l hh ρ2 h
      obtain ⟨t, g1, g2⟩ := rO_post h
      exact sliceF_ok g1 g2
    cases hn : PL.isNon lo with
    | true =>
      rw [if_pos rfl]
      rw [ptF_none hn] at h2
      exact ptF_ok hh (post_bd h2 fun t ρ1 h3 => fin h3)
    | false =>
      rw [if_neg (by decide)]
      rw [ptF_some hn] at h2
      refine hl.1 _ _ _ _ (post_bd (post_bd h2 fun o ρ1 h3 => h3) fun t ρ1 h3 => ?_)
      obtain ⟨o, e1, h4⟩ := rO_post h3
      obtain ⟨i, rfl, rfl⟩ := intQ_ok e1
      exact ⟨i, rfl, ptF_ok hh (post_bd h4 fun t ρ1 h3 => fin h3)⟩
theorem xmeth_ok (hR : ROk R Φ) {c mn : Str} {f : Nat} {o : Ex} {es : List Ex} (ho : FOk p R Φ o) (hes : ∀ e ∈ es, FOk p R Φ e) : FOk p R Φ (.meth c mn f o es) := by
  refine mk_ok rfl rfl fun m ρ Q X h => ?_
  refine agF_ok ho (post_bd h fun a ρ1 h1 => ?_)
  obtain ⟨h2, h3⟩ := okIf_post h1
  refine ⟨?_, fAs_ok hes (post_bd h3 fun as ρ2 h4 => callF_ok hR h4)⟩
  unfold isObj at h2
  split at h2
  · rename_i C fs b ts e
    obtain ⟨e1, e2⟩ := Bool.and_eq_true_iff.mp h2
    have e1 := of_decide_eq_true e1
    subst e1
    exact ⟨fs, b, ts, e, by simpa using e2⟩
  · cases h2
theorem xnot_ok {a : Ex} (ha : FOk p R Φ a) : FOk p R Φ (.not a) := by
  refine ⟨fun m ρ Q X h => ?_, fun ρ Q X h => ha.2 _ _ _ (post_bd h fun k ρ1 h1 => h1)⟩
  change (match quiet a with
      | true => (truQ (cq p a ρ) ρ).bd fun k ρ1 => Rs.ok (T.b !k) ρ1
      | false => ((f2 p R a).1 false ρ).bd fun t ρ1 => rO (notF t) ρ1).post Q X at h
  show if quiet a = true then _ else _
  split at h
  · rename_i hq
    rw [if_pos hq]
    have h := post_bd (Q2 := fun k ρ1 => Q (T.b !k) ρ1) h fun k ρ1 h1 => h1
    unfold truQ at h
    split at h
    · rename_i t ht
      obtain ⟨k, h1, h2⟩ := rO_post h
      exact ⟨t, ht, k, h1, h2⟩
    · exact h.elim
  · rename_i hq
    rw [if_neg (by rw [hq]; decide)]
    refine ha.1 _ _ _ _ (post_bd h fun t ρ1 h1 => ?_)
    obtain ⟨u, h2, h3⟩ := rO_post h1
    obtain ⟨k, h4, rfl⟩ := notF_ok h2
    exact ⟨k, h4, h3⟩
theorem xand_ok {a b : Ex} (ha : FOk p R Φ a) (hb : FOk p R Φ b) : FOk p R Φ (.and a b) := by
  refine ⟨fun m ρ Q X h => ha.1 _ _ _ _ (post_bd h fun t ρ1 h1 => ?_), fun ρ Q X h => ha.2 _ _ _ (post_bd h fun k ρ1 h1 => ?_)⟩
  · split at h1
    · exact ⟨true, ‹_›, by rw [if_pos rfl]; exact hb.1 _ _ _ _ h1⟩
    · exact ⟨false, ‹_›, by rw [if_neg (by decide)]; exact h1⟩
    · exact h1.elim
  · cases k with
    | true => rw [if_pos rfl]; exact hb.2 _ _ _ h1
    | false => rw [if_neg (by decide)]; exact h1
theorem xor_ok {a b : Ex} (ha : FOk p R Φ a) (hb : FOk p R Φ b) : FOk p R Φ (.or a b) := by
  refine ⟨fun m ρ Q X h => ha.1 _ _ _ _ (post_bd h fun t ρ1 h1 => ?_), fun ρ Q X h => ha.2 _ _ _ (post_bd h fun k ρ1 h1 => ?_)⟩
  · split at h1
    · exact ⟨true, ‹_›, by rw [if_pos rfl]; exact h1⟩
    · exact ⟨false, ‹_›, by rw [if_neg (by decide)]; exact hb.1 _ _ _ _ h1⟩
    · exact h1.elim
  · cases k with
    | true => rw [if_pos rfl]; exact h1
    | false => rw [if_neg (by decide)]; exact hb.2 _ _ _ h1
theorem xite_ok {c a b : Ex} (hc : FOk p R Φ c) (ha : FOk p R Φ a) (hb : FOk p R Φ b) : FOk p R Φ (.ite c a b) := by
  refine ⟨fun m ρ Q X h => hc.2 _ _ _ (post_bd h fun k ρ1 h1 => ?_), fun ρ Q X h => hc.2 _ _ _ (post_bd h fun k ρ1 h1 => ?_)⟩
  · cases k with
    | true => rw [if_pos rfl]; exact ha.1 _ _ _ _ h1
    | false => rw [if_neg (by decide)]; exact hb.1 _ _ _ _ h1
  · cases k with
    | true => rw [if_pos rfl]; exact ha.2 _ _ _ h1
    | false => rw [if_neg (by decide)]; exact hb.2 _ _ _ h1
theorem xcmp_ok {op : CmpOp} {a b : Ex} (ha : FOk p R Φ a) (hb : FOk p R Φ b) : FOk p R Φ (.cmp op a b) := by
  refine mk_ok rfl rfl fun m ρ Q X h => ?_
  split at h
  · rename_i hq
    try dsimp only
    rw [if_pos hq]
    obtain ⟨t, h1, h2⟩ := rO_post h
    unfold cmpQ at h1
    split at h1
    · rename_i ta tb e1 e2
      obtain ⟨k, h3, rfl⟩ := cmpF_ok h1
      exact ⟨ta, tb, e1, e2, k, h3, h2⟩
    · cases h1
  · rename_i hq
    try dsimp only
    rw [if_neg (by rw [hq]; decide)]
    refine ha.1 _ _ _ _ (post_bd h fun ta ρ1 h1 => hb.1 _ _ _ _ (post_bd h1 fun tb ρ2 h2 => ?_))
    obtain ⟨t, h3, h4⟩ := rO_post h2
    obtain ⟨k, h5, rfl⟩ := cmpF_ok h3
    exact ⟨k, h5, h4⟩
theorem xchain_ok {o1 o2 : CmpOp} {a b c : Ex} (ha : FOk p R Φ a) (hb : FOk p R Φ b) (hc : FOk p R Φ c) : FOk p R Φ (.chain o1 o2 a b c) := by
  refine mk_ok rfl rfl fun m ρ Q X h => ?_
  refine ha.1 _ _ _ _ (post_bd h fun ta ρ1 h1 => hb.1 _ _ _ _ (post_bd h1 fun tb ρ2 h2 => ?_))
  split at h2
  · refine ⟨true, ‹_›, ?_⟩
    rw [if_pos rfl]
    refine hc.1 _ _ _ _ (post_bd h2 fun tc ρ3 h3 => ?_)
    obtain ⟨t, h3, h4⟩ := rO_post h3
    obtain ⟨k, h5, rfl⟩ := cmpF_ok h3
    exact ⟨k, h5, h4⟩
  · exact ⟨false, ‹_›, by rw [if_neg (by decide)]; exact h2⟩
  · exact h2.elim
theorem xbin_ok {op : Operator} {a b : Ex} (ha : FOk p R Φ a) (hb : FOk p R Φ b) : FOk p R Φ (.bin op a b) := by
  refine mk_ok rfl rfl fun m ρ Q X h => ?_
  refine ha.1 _ _ _ _ (post_bd h fun ta ρ1 h1 => hb.1 _ _ _ _ (post_bd h1 fun tb ρ2 h2 => ?_))
  obtain ⟨t, h3, h4⟩ := rO_post h2
  exact binF_ok h3 h4
theorem xneg_ok {a : Ex} (ha : FOk p R Φ a) : FOk p R Φ (.neg a) := by
  refine mk_ok rfl rfl fun m ρ Q X h => ?_
  refine ha.1 _ _ _ _ (post_bd h fun ta ρ1 h1 => ?_)
  obtain ⟨t, h3, h4⟩ := rO_post h1
  obtain ⟨i, rfl, rfl⟩ := negF_ok h3
  exact ⟨i, rfl, h4⟩
theorem xdct_ok {ks vs : List Ex} (hk : ∀ e ∈ ks, FOk p R Φ e) (hv : ∀ e ∈ vs, FOk p R Φ e) : FOk p R Φ (.dct ks vs) := by
  refine mk_ok rfl rfl fun m ρ Q X h => ?_
  split at h
  · rename_i hq
    try dsimp only
    rw [if_pos hq]
    exact h
  · rename_i hq
    try dsimp only
    rw [if_neg (by rw [hq]; decide)]
    refine fDs_ok (Q := fun q ρ1 => q.1.Nodup ∧ q.1.length ≤ 15 ∧ Q (.nd (.dct q.1) true q.2) ρ1) hk hv (post_bd h fun q ρ1 h1 => ?_)
    obtain ⟨t, h3, h4⟩ := rO_post h1
    obtain ⟨g1, g2⟩ := gd_some h3
    cases g2
    exact ⟨g1.1, g1.2, h4⟩
theorem xlst_ok {es : List Ex} (hes : ∀ e ∈ es, FOk p R Φ e) : FOk p R Φ (.lst es) := by
  refine mk_ok rfl rfl fun m ρ Q X h => fEs_ok hes (post_bd h fun ts ρ1 h1 => ?_)
  obtain ⟨t, h3, h4⟩ := rO_post h1
  obtain ⟨g1, g2⟩ := gd_some h3
  cases g2
  exact ⟨sz g1, h4⟩
theorem xtup_ok {es : List Ex} (hes : ∀ e ∈ es, FOk p R Φ e) : FOk p R Φ (.tup es) := by
  refine mk_ok rfl rfl fun m ρ Q X h => fEs_ok hes (post_bd h fun ts ρ1 h1 => ?_)
  obtain ⟨t, h3, h4⟩ := rO_post h1
  obtain ⟨g1, g2⟩ := gd_some h3
  cases g2
  exact ⟨sz g1, h4⟩
theorem xvar_ok {i : Nat} : FOk p R Φ (.var i) := by
  refine mk_ok rfl rfl fun m ρ Q X h => ?_
  unfold vrd at h
  split at h
  · rename_i t ht
    unfold vrw at h
    split at h
    · exact h.elim
    · rename_i hu
      refine ⟨t, ht, hu, ?_⟩
      split at h
      · rename_i ho
        rw [if_neg (by rw [ho]; decide)]
        exact h
      · rename_i ho
        rw [if_pos ho]
        split at h
        · rw [if_pos rfl]; exact h
        · rw [if_neg (by decide)]; exact h
  · exact h.elim
def FAll (p : Px) (R : RF) (Φ : CF) (es : List Ex) : Prop := ∀ e ∈ es, FOk p R Φ e
mutual
theorem f2_ok (hR : ROk R Φ) : ∀ (e : Ex), FOk p R Φ e
  | .var i => xvar_ok
  | .int i => mk_ok rfl rfl fun m ρ Q X h => h
  | .bl i => mk_ok rfl rfl fun m ρ Q X h => h
  | .non => mk_ok rfl rfl fun m ρ Q X h => h
  | .str i => mk_ok rfl rfl fun m ρ Q X h => h
  | .ty i => mk_ok rfl rfl fun m ρ Q X h => h
  | .cls i => mk_ok rfl rfl fun m ρ Q X h => h
  | .bin op a b => xbin_ok (f2_ok hR a) (f2_ok hR b)
  | .neg a => xneg_ok (f2_ok hR a)
  | .not a => xnot_ok (f2_ok hR a)
  | .and a b => xand_ok (f2_ok hR a) (f2_ok hR b)
  | .or a b => xor_ok (f2_ok hR a) (f2_ok hR b)
  | .ite c a b => xite_ok (f2_ok hR c) (f2_ok hR a) (f2_ok hR b)
  | .cmp op a b => xcmp_ok (f2_ok hR a) (f2_ok hR b)
  | .chain o1 o2 a b c => xchain_ok (f2_ok hR a) (f2_ok hR b) (f2_ok hR c)
  | .lst es => xlst_ok (f2s_ok hR es)
  | .tup es => xtup_ok (f2s_ok hR es)
  | .dct ks vs => xdct_ok (f2s_ok hR ks) (f2s_ok hR vs)
  | .call f es => mk_ok rfl rfl fun m ρ Q X h => fAs_ok (f2s_ok hR es) (post_bd h fun as ρ1 h1 => callF_ok hR h1)
  | .new c f es => mk_ok rfl rfl fun m ρ Q X h => fAs_ok (f2s_ok hR es) (post_bd h fun as ρ1 h1 => newF_ok hR h1)
  | .meth c mn f o es => xmeth_ok hR (f2_ok hR o) (f2s_ok hR es)
  | .blt b es => xblt_ok (f2s_ok hR es)
  | .mth k o es => xmth_ok (f2s_ok hR es)
  | .attr o f => xattr_ok (f2_ok hR o)
  | .idx o i => xidx_ok (f2_ok hR o) (f2_ok hR i)
  | .slc o lo hi => xslc_ok (f2_ok hR o) (f2_ok hR lo) (f2_ok hR hi)
  | .lc el tg k ss cs own => xlc_ok (f2_ok hR el) (f2s_ok hR ss) (f2s_ok hR cs)
  | .dc _ _ _ _ _ _ _ => ⟨fun _ _ _ _ h => h.elim, fun _ _ _ h => h.elim⟩
theorem f2s_ok (hR : ROk R Φ) : ∀ (es : List Ex), FAll p R Φ es
  | [] => fun e h => nomatch h
  | e :: es => fun e' h => (List.mem_cons.mp h).elim (fun q => q ▸ f2_ok hR e) (fun h => f2s_ok hR es e' h)
end
end
end PL
set_option Elab.async false
set_option linter.all false
set_option maxRecDepth 100000
set_option maxHeartbeats 4000000
namespace PL
open PySem PySem.Spec PyProof.Rows L2
section
variable {α : Type} {p : Px} {R : RF} {Φ : CF} {XI : Nat → Option (List Str)}
theorem bs_post {r : Rs α} {f : α → Ev → Fw} {D : Ed} {Q : α → Ev → Prop} (h : (r.bs f).post D) (q : ∀ a ρ, (f a ρ).post D → Q a ρ) : r.post Q D.xc := by
  cases r with
  | ok a ρ => exact q a ρ h
  | ex c e ρ => exact h
  | bad => exact h
theorem nxO_post {o : Option Ev} {D : Ed} (h : (nxO o).post D) : ∃ ρ, o = some ρ ∧ D.nx ρ := by
  cases o with
  | none => exact h.elim
  | some ρ => exact ⟨ρ, rfl, h⟩
def SOk (p : Px) (R : RF) (Φ : CF) (XI : Nat → Option (List Str)) (s : Cm) : Prop := ∀ ρ D, (fS p R XI s ρ).post D → cS p Φ XI s D ρ
def SsOk (p : Px) (R : RF) (Φ : CF) (XI : Nat → Option (List Str)) (s : List Cm) : Prop := ∀ ρ D, (fSs p R XI s ρ).post D → cSs p Φ XI s D ρ
theorem sq_post {o : Fw} {f : Ev → Fw} {D : Ed} {nx : Ev → Prop} (h : (o.sq f).post D) (q : ∀ ρ, (f ρ).post D → nx ρ) : o.post { D with nx := nx } := by
  cases o with
  | nx ρ => exact q ρ h
  | rt t ρ => exact h
  | bk ρ => exact h
  | ct ρ => exact h
  | xc c e ρ => exact h
  | bad => exact h
theorem tn_post {o : Fw} {f : Ev → Fw} {D : Ed} {nx : Ev → Prop} (h : (o.tn f).post D) (q : ∀ ρ, (f ρ).post D → nx ρ) : o.post { D with nx := nx, ct := nx, bk := D.nx } := by
  cases o with
  | nx ρ => exact q ρ h
  | rt t ρ => exact h
  | bk ρ => exact h
  | ct ρ => exact q ρ h
  | xc c e ρ => exact h
  | bad => exact h
theorem fFor_ok {g : Tg} {b : List Cm} (hb : SsOk p R Φ XI b) {D : Ed} : ∀ (its : List T) (ρ : Ev), (fFor g (fSs p R XI b) its ρ).post D → cFor g (cSs p Φ XI b) D its ρ
  | [], ρ, h => h
  | t :: r, ρ, h => by
    unfold fFor at h
    split at h
    · rename_i ρ1 e
      exact bindF_ok g e (hb _ _ (tn_post h fun ρ2 h2 => fFor_ok hb r ρ2 h2))
    · exact h.elim
theorem wrapF_post {as : List Ag} {ts us : List T} {dv : Bool} {o : Fw} {D : Ed} (h : (wrapF as ts us dv o).post D) : o.post (wrapD D as ts us dv) := by
  cases o with
  | nx ρ => exact h
  | rt t ρ => exact h
  | bk ρ => exact h.elim
  | ct ρ => exact h.elim
  | xc c e ρ =>
    cases dv with
    | true => exact h.elim
    | false => exact ⟨rfl, h⟩
  | bad => exact h
theorem fWn_ok {c : Ex} {b : List Cm} (hc : FOk p R Φ c) (hb : SsOk p R Φ XI b) {D : Ed} : ∀ (n : Nat) (ρ : Ev), (fWn (f2 p R c).2 (fSs p R XI b) n ρ).post D → whlN ((c2 p Φ c).2 D.xc) (cSs p Φ XI b) D n ρ
  | 0, ρ, h => h
  | n + 1, ρ, h => by
    refine hc.2 _ _ _ (bs_post h fun k ρ1 h1 => ?_)
    cases k with
    | true =>
      rw [if_pos rfl]
      exact hb _ _ (tn_post h1 fun ρ2 h2 => fWn_ok hc hb n ρ2 h2)
    | false =>
      rw [if_neg (by decide)]
      exact h1
theorem xfr_ok {g : Tg} {k : Sk} {ss : List Ex} {b : List Cm} (hss : ∀ e ∈ ss, FOk p R Φ e) (hb : SsOk p R Φ XI b) : SOk p R Φ XI (.fr g k ss b) := by
  intro ρ D h
  unfold fS at h
  unfold cS
  split at h
  · rename_i hk
    refine ⟨hk, _, rfl, fAs_ok hss (bs_post h fun as ρ1 h1 => ?_)⟩
    split at h1
    · rename_i its ts us ρ2 e
      unfold frSrc at e
      split at e
      · rename_i ts' ρ2' hl
        obtain ⟨e3, e⟩ := gd_some e
        obtain ⟨rfl, rfl, e0, e1, hi, e2⟩ := itQ_ok e
        exact ⟨_, _, us, hl, e0, e1, e3, its, hi, e2, fFor_ok hb _ _ (wrapF_post h1)⟩
      · cases e
    · exact h1.elim
  · exact h.elim
theorem xsub_ok {o i v : Ex} (hv : FOk p R Φ v) (hi : FOk p R Φ i) : SOk p R Φ XI (.sub o i v) := by
  intro ρ D h
  unfold fS at h
  unfold cS
  refine hv.1 _ _ _ _ (bs_post h fun tv ρ1 h1 => ?_)
  split at h1
  · rename_i j hj
    try dsimp only
    try rw [hj]
    split at h1
    · rename_i h2
      refine ⟨thereQ_ok h2, hi.1 _ _ _ _ (bs_post h1 fun ti ρ2 h3 => ?_)⟩
      split at h3
      · rename_i h4
        obtain ⟨t, e1, e2⟩ := thereQ_ok h4
        unfold setV at h3
        rw [e1] at h3
        dsimp only at h3
        split at h3
        · exact ⟨t, e1, e2, stF_ok ‹_› h3⟩
        · exact h3.elim
      · exact h3.elim
    · exact h1.elim
  · rename_i hj
    try dsimp only
    try rw [hj]
    unfold setQ at h1
    split at h1
    · rename_i t ti e1 e2
      split at h1
      · rename_i t' e3
        obtain ⟨ρ2, e4, h5⟩ := nxO_post h1
        exact ⟨ti, e2, t, e1, stF_ok e3 ⟨ρ2, e4, h5⟩⟩
      · exact h1.elim
    · exact h1.elim
theorem xfld_ok {o v : Ex} {f : Str} (hv : FOk p R Φ v) : SOk p R Φ XI (.fld o f v) := by
  intro ρ D h
  unfold fS at h
  unfold cS
  refine hv.1 _ _ _ _ (bs_post h fun tv ρ1 h1 => ?_)
  unfold fldQ at h1
  split at h1
  · rename_i t e1
    split at h1
    · rename_i t' e3
      obtain ⟨ρ2, e4, h5⟩ := nxO_post h1
      exact ⟨t, e1, setFF_ok e3 ⟨ρ2, e4, h5⟩⟩
    · exact h1.elim
  · exact h1.elim
theorem xaug_ok {i : Nat} {op : Operator} {e : Ex} (he : FOk p R Φ e) : SOk p R Φ XI (.aug i op e) := by
  intro ρ D h
  unfold fS at h
  unfold cS
  split at h
  · rename_i tx e1
    unfold augQ at e1
    split at e1
    · rename_i t e2
      split at e1
      · rename_i hc
        cases e1
        refine ⟨tx, e2, hc.1, hc.2, he.1 _ _ _ _ (bs_post h fun t ρ1 h1 => ?_)⟩
        split at h1
        · exact augF_ok ‹_› h1
        · exact h1.elim
      · cases e1
    · cases e1
  · exact h.elim
theorem xraise_ok {x : Str} {f : Nat} {es : List Ex} (hes : ∀ e ∈ es, FOk p R Φ e) : SOk p R Φ XI (.raise x f es) := by
  intro ρ D h
  unfold fS at h
  unfold cS
  split at h
  · rename_i fs e1
    split at h
    · rename_i h2
      unfold raiseOk at h2
      simp only [Bool.and_eq_true, decide_eq_true_eq] at h2
      obtain ⟨⟨⟨⟨h3, h4⟩, h5⟩, h6⟩, h7⟩ := h2
      exact ⟨fs, e1, h3, h4, h5, h6, h7, fEs_ok hes (bs_post h fun ts ρ1 h1 => h1)⟩
    · exact h.elim
  · exact h.elim
theorem xtry_ok {b : List Cm} {x : Str} {i : Nat} {w f : Str} (hb : SsOk p R Φ XI b) : SOk p R Φ XI (.tryAs b x i w f) := by
  intro ρ D h
  unfold fS at h
  unfold cS
  split at h
  · rename_i hx
    refine ⟨hx, hb _ _ ?_⟩
    revert h
    cases fSs p R XI b ρ with
    | nx ρ => exact fun h => h
    | rt t ρ => exact fun h => h
    | bk ρ => exact fun h => h
    | ct ρ => exact fun h => h
    | bad => exact fun h => h
    | xc c t ρ =>
      intro h
      unfold tryF at h
      dsimp only at h
      split at h
      · rename_i hc
        refine ⟨hc, ?_⟩
        split at h
        · rename_i hq
          rw [if_pos hq]
          split at h
          · rename_i u hu
            split at h
            · rename_i u' hg
              obtain ⟨g1, g2⟩ := gd_some hg
              cases g2
              refine ⟨g1, ?_⟩
              unfold xdAt at hu
              split at hu
              · rename_i fs ts
                split at hu
                · rename_i u2 hl
                  split at hu
                  · cases hu
                    exact ⟨fs, ts, _, rfl, hl, ‹_›, h⟩
                  · cases hu
                · cases hu
              · cases hu
            · exact h.elim
          · exact h.elim
        · rename_i hq
          rw [if_neg (by rw [hq]; decide)]
          exact h
      · exact h.elim
  · exact h.elim
theorem xwhl_ok {c : Ex} {b : List Cm} (hc : FOk p R Φ c) (hb : SsOk p R Φ XI b) : SOk p R Φ XI (.whl c b) := by
  intro ρ D h
  unfold fS at h
  unfold cS
  unfold fWh at h
  split at h
  · exact ⟨_, fWn_ok hc hb _ _ h⟩
  · exact h.elim
mutual
theorem fS_ok (hR : ROk R Φ) : ∀ (s : Cm), SOk p R Φ XI s
  | .asg g e => fun ρ D h => by
    unfold fS at h
    unfold cS
    refine (f2_ok hR e).1 _ _ _ _ (bs_post h fun v ρ1 h1 => ?_)
    obtain ⟨ρ2, e1, h2⟩ := nxO_post h1
    exact bindF_ok g e1 h2
  | .par2 i j a b => fun ρ D h => by
    unfold fS at h
    unfold cS
    exact (f2_ok hR a).1 _ _ _ _ (bs_post h fun ta ρ1 h1 => (f2_ok hR b).1 _ _ _ _ (bs_post h1 fun tb ρ2 h2 => h2))
  | .par3 i j k a b c => fun ρ D h => by
    unfold fS at h
    unfold cS
    exact (f2_ok hR a).1 _ _ _ _ (bs_post h fun ta ρ1 h1 => (f2_ok hR b).1 _ _ _ _ (bs_post h1 fun tb ρ2 h2 => (f2_ok hR c).1 _ _ _ _ (bs_post h2 fun tc ρ3 h3 => h3)))
  | .sub o i v => xsub_ok (f2_ok hR v) (f2_ok hR i)
  | .fld o f v => xfld_ok (f2_ok hR v)
  | .aug i op e => xaug_ok (f2_ok hR e)
  | .ex e => fun ρ D h => by
    unfold fS at h
    unfold cS
    exact (f2_ok hR e).1 _ _ _ _ (bs_post h fun t ρ1 h1 => h1)
  | .ret e => fun ρ D h => by
    unfold fS at h
    unfold cS
    exact (f2_ok hR e).1 _ _ _ _ (bs_post h fun t ρ1 h1 => h1)
  | .retn => fun ρ D h => h
  | .ite c a b => fun ρ D h => by
    unfold fS at h
    unfold cS
    refine (f2_ok hR c).2 _ _ _ (bs_post h fun k ρ1 h1 => ?_)
    cases k with
    | true => rw [if_pos rfl]; exact fSs_ok hR a _ _ h1
    | false => rw [if_neg (by decide)]; exact fSs_ok hR b _ _ h1
  | .whl c b => xwhl_ok (f2_ok hR c) (fSs_ok hR b)
  | .fr g k ss b => xfr_ok (f2s_ok hR ss) (fSs_ok hR b)
  | .raise x f es => xraise_ok (f2s_ok hR es)
  | .tryAs b x i w f => xtry_ok (fSs_ok hR b)
  | .pass => fun ρ D h => h
  | .brk => fun ρ D h => h
  | .cont => fun ρ D h => h
theorem fSs_ok (hR : ROk R Φ) : ∀ (b : List Cm), SsOk p R Φ XI b
  | [] => fun ρ D h => h
  | s :: r => fun ρ D h => by
    unfold fSs at h
    unfold cSs
    exact fS_ok hR s _ _ (sq_post h fun ρ1 h1 => fSs_ok hR r _ _ h1)
end
theorem run_ok {Tb : List Fd} : ∀ n, ROk (run p Tb n) (cPhi p Tb n)
  | 0 => fun f ts Q X h => h.elim
  | n + 1 => fun f ts Q X h => by
    unfold run at h
    split at h
    · rename_i t ht
      split at h
      · rename_i hl
        refine ⟨t, ht, of_decide_eq_true hl, fSs_ok (run_ok n) _ _ _ ?_⟩
        revert h
        cases fSs p (run p Tb n) (XIat Tb n) t.b (ts ++ List.replicate (t.N.length - t.np) .un) with
        | nx ρ => exact fun h => h
        | rt t ρ => exact fun h => h
        | bk ρ => exact fun h => h.elim
        | ct ρ => exact fun h => h.elim
        | xc c e ρ => exact fun h => h
        | bad => exact fun h => h
      · exact h.elim
    · exact h.elim
end
/-! ### loops -/
section
variable {c : Ev → Rs Bool} {body : Ev → Fw}
theorem fWn_mono : ∀ {n : Nat} {ρ : Ev}, fWn c body n ρ ≠ .bad → fWn c body (n + 1) ρ = fWn c body n ρ
  | 0, ρ, h => absurd rfl h
  | n + 1, ρ, h => by
    rw [fWn, fWn]
    rw [fWn] at h
    cases e : c ρ with
    | ok k ρ1 =>
      rw [e] at h
      cases k with
      | true =>
        change ((body ρ1).tn fun ρ2 => fWn c body n ρ2) ≠ .bad at h
        show ((body ρ1).tn fun ρ2 => fWn c body (n + 1) ρ2) = ((body ρ1).tn fun ρ2 => fWn c body n ρ2)
        revert h
        cases body ρ1 with
        | nx ρ => exact fun h => fWn_mono h
        | ct ρ => exact fun h => fWn_mono h
        | _ => exact fun h => rfl
      | false => rfl
    | ex c e ρ => rfl
    | bad => rfl
theorem fWn_le {n m : Nat} {ρ : Ev} (h : fWn c body n ρ ≠ .bad) (hm : n ≤ m) : fWn c body m ρ = fWn c body n ρ := by
  induction hm with
  | refl => rfl
  | step hm ih => rw [fWn_mono (by rw [ih]; exact h), ih]
theorem fWh_of {n : Nat} {ρ : Ev} (h : fWn c body n ρ ≠ .bad) : fWh c body ρ = fWn c body n ρ := by
  have e : ∃ n, fWn c body n ρ ≠ .bad := ⟨n, h⟩
  unfold fWh
  rw [dif_pos e]
  have h2 := Classical.choose_spec e
  rcases Nat.le_total n (Classical.choose e) with l | l
  · exact fWn_le h l
  · exact (fWn_le h2 l).symm
theorem fWh_none {ρ : Ev} (h : ¬ ∃ n, fWn c body n ρ ≠ .bad) : fWh c body ρ = .bad := by
  unfold fWh
  rw [dif_neg h]
/-- one turn -/
theorem fWh_eq {ρ : Ev} : fWh c body ρ = (c ρ).bs fun k ρ1 => match k with
    | true => (body ρ1).tn fun ρ2 => fWh c body ρ2
    | false => .nx ρ1 := by
  by_cases e : ∃ n, fWn c body n ρ ≠ .bad
  · obtain ⟨n, h⟩ := e
    rw [fWh_of h]
    cases n with
    | zero => exact absurd rfl h
    | succ n =>
      rw [fWn] at h ⊢
      cases e : c ρ with
      | ok k ρ1 =>
        rw [e] at h
        cases k with
        | true =>
          change ((body ρ1).tn fun ρ2 => fWn c body n ρ2) ≠ .bad at h
          show ((body ρ1).tn fun ρ2 => fWn c body n ρ2) = ((body ρ1).tn fun ρ2 => fWh c body ρ2)
          revert h
          cases body ρ1 with
          | nx ρ => exact fun h => (fWh_of h).symm
          | ct ρ => exact fun h => (fWh_of h).symm
          | _ => exact fun h => rfl
        | false => rfl
      | ex c e ρ => rfl
      | bad => rfl
  · rw [fWh_none e]
    have all : ∀ n, fWn c body n ρ = .bad := fun n => Classical.byContradiction fun h => e ⟨n, h⟩
    have h1 := all 1
    cases e1 : c ρ with
    | ok k ρ1 =>
      cases k with
      | true =>
        show .bad = ((body ρ1).tn fun ρ2 => fWh c body ρ2)
        have h2 : ∀ n, ((body ρ1).tn fun ρ2 => fWn c body n ρ2) = .bad := fun n => by
          have := all (n + 1)
          rw [fWn, e1] at this
          exact this
        revert h2
        cases body ρ1 with
        | nx ρ => exact fun h => (fWh_none fun ⟨n, hn⟩ => hn (h n)).symm
        | ct ρ => exact fun h => (fWh_none fun ⟨n, hn⟩ => hn (h n)).symm
        | bad => exact fun h => rfl
        | bk ρ => exact fun h => by have := h 0; cases this
        | rt t ρ => exact fun h => by have := h 0; cases this
        | xc c e ρ => exact fun h => by have := h 0; cases this
      | false =>
        rw [fWn, e1] at h1
        cases h1
    | ex c e ρ =>
      rw [fWn, e1] at h1
      cases h1
    | bad => rfl
end
end PL
set_option Elab.async false
set_option linter.all false
set_option maxRecDepth 100000
set_option maxHeartbeats 4000000
/-! The functional reading by simp: frames. -/
namespace PL
open PySem PySem.Spec PyProof.Rows L2
noncomputable def ev (p : Px) (R : RF) (e : Ex) (m : Bool) (ρ : Ev) : Rs T := (f2 p R e).1 m ρ
noncomputable def tv (p : Px) (R : RF) (e : Ex) (ρ : Ev) : Rs Bool := (f2 p R e).2 ρ
noncomputable def av (p : Px) (R : RF) (e : Ex) (ρ : Ev) : Rs Ag := agF e ((f2 p R e).1 false) ρ
noncomputable def pv (p : Px) (R : RF) (e : Ex) (ρ : Ev) : Rs (Option Int) := ptF e ((f2 p R e).1 false) ρ
section
variable {p : Px} {R : RF} {XI : Nat → Option (List Str)} {m : Bool} {ρ ρ1 ρ2 : Ev} {t u v : T} {ts us os : List T} {c : Str} {x : T} {op : Operator} {cp : CmpOp} {e a b d : Ex} {es : List Ex} {k : Bool} {i j : Nat} {n : Int} {s : Str}

@[simp] theorem ev_int : ev p R (.int n) m ρ = .ok (.i n) ρ := rfl
@[simp] theorem ev_bl : ev p R (.bl k) m ρ = .ok (.b k) ρ := rfl
@[simp] theorem ev_non : ev p R (.non) m ρ = .ok (.n) ρ := rfl
@[simp] theorem ev_str : ev p R (.str s) m ρ = .ok (.s s) ρ := rfl
@[simp] theorem ev_ty {n : String} : ev p R (.ty n) m ρ = .ok (.lf (.ty n)) ρ := rfl
@[simp] theorem ev_cls : ev p R (.cls s) m ρ = .ok (.cls s) ρ := rfl
@[simp] theorem ev_var : ev p R (.var i) m ρ = vrd m i ρ (ρ[i]?) := rfl
@[simp] theorem vrd_some : vrd m i ρ (some t) = vrw m i ρ t (isUn t) (ow t) := rfl
@[simp] theorem vrw_0 : vrw m i ρ t false false = .ok t ρ := rfl
@[simp] theorem vrw_1 : vrw true i ρ t false true = .ok t (ρ.set i .un) := rfl
@[simp] theorem vrw_2 : vrw false i ρ t false true = .ok (fz t) (ρ.set i (fz t)) := rfl
@[simp] theorem vrw_3 : vrw true i ρ t false k = .ok t (if k = true then ρ.set i .un else ρ) := by cases k <;> rfl
@[simp] theorem rO_some {α : Type} {t : α} : rO (some t) ρ = .ok t ρ := rfl
@[simp] theorem rO_none {α : Type} : rO (none : Option α) ρ = .bad := rfl
noncomputable def kB2 (op : Operator) (ta : T) (r : Rs T) : Rs T := r.bd fun tb ρ2 => rO (binF op ta tb) ρ2
@[simp] theorem kB2_ok : kB2 op u (.ok t ρ) = rO (binF op u t) ρ := rfl
@[simp] theorem kB2_ex : kB2 op u (.ex c x ρ) = .ex c x ρ := rfl
@[simp] theorem kB2_bad : kB2 op u .bad = .bad := rfl
noncomputable def kB1 (p : Px) (R : RF) (op : Operator) (b : Ex) (r : Rs T) : Rs T := r.bd fun ta ρ1 => kB2 op ta (ev p R b false ρ1)
@[simp] theorem kB1_ok : kB1 p R op b (.ok t ρ) = kB2 op t (ev p R b false ρ) := rfl
@[simp] theorem kB1_ex : kB1 p R op b (.ex c x ρ) = .ex c x ρ := rfl
@[simp] theorem kB1_bad : kB1 p R op b .bad = .bad := rfl
@[simp] theorem ev_bin : ev p R (.bin op a b) m ρ = kB1 p R op b (ev p R a false ρ) := rfl
noncomputable def kN  (r : Rs T) : Rs T := r.bd fun t ρ => rO (negF t) ρ
@[simp] theorem kN_ok : kN (.ok t ρ) = rO (negF t) ρ := rfl
@[simp] theorem kN_ex : kN (.ex c x ρ) = .ex c x ρ := rfl
@[simp] theorem kN_bad : kN .bad = .bad := rfl
@[simp] theorem ev_neg : ev p R (.neg a) m ρ = kN (ev p R a false ρ) := rfl
@[simp] theorem negF_i : negF (.i n) = some (.i (-n)) := rfl
noncomputable def kNot1  (r : Rs Bool) : Rs T := r.bd fun k ρ => .ok (.b !k) ρ
@[simp] theorem kNot1_ok : kNot1 (.ok k ρ) = .ok (.b !k) ρ := rfl
@[simp] theorem kNot1_ex : kNot1 (.ex c x ρ) = .ex c x ρ := rfl
@[simp] theorem kNot1_bad : kNot1 .bad = .bad := rfl
noncomputable def kNot2  (r : Rs T) : Rs T := r.bd fun t ρ => rO (notF t) ρ
@[simp] theorem kNot2_ok : kNot2 (.ok t ρ) = rO (notF t) ρ := rfl
@[simp] theorem kNot2_ex : kNot2 (.ex c x ρ) = .ex c x ρ := rfl
@[simp] theorem kNot2_bad : kNot2 .bad = .bad := rfl
noncomputable def kNot (p : Px) (R : RF) (a : Ex) (ρ : Ev) : Bool → Rs T
  | true => kNot1 (truQ (cq p a ρ) ρ)
  | false => kNot2 (ev p R a false ρ)
@[simp] theorem kNot_t : kNot p R a ρ true = kNot1 (truQ (cq p a ρ) ρ) := rfl
@[simp] theorem kNot_f : kNot p R a ρ false = kNot2 (ev p R a false ρ) := rfl
@[simp] theorem ev_not : ev p R (.not a) m ρ = kNot p R a ρ (quiet a) := by show (match quiet a with | true => _ | false => _) = _; cases quiet a <;> rfl
noncomputable def kNot3  (r : Rs Bool) : Rs Bool := r.bd fun k ρ => .ok (!k) ρ
@[simp] theorem kNot3_ok : kNot3 (.ok k ρ) = .ok (!k) ρ := rfl
@[simp] theorem kNot3_ex : kNot3 (.ex c x ρ) = .ex c x ρ := rfl
@[simp] theorem kNot3_bad : kNot3 .bad = .bad := rfl
@[simp] theorem tv_not : tv p R (.not a) ρ = kNot3 (tv p R a ρ) := rfl
@[simp] theorem notF_eq : notF t = (truT t).map fun k => .b !k := by unfold notF; cases truT t <;> rfl
@[simp] theorem truQ_some : truQ (some t) ρ = rO (truT t) ρ := rfl
noncomputable def kAnd1 (p : Px) (R : RF) (b : Ex) (t : T) (ρ : Ev) : Option Bool → Rs T
  | some true => ev p R b false ρ
  | some false => .ok t ρ
  | none => .bad
@[simp] theorem kAnd1_a : kAnd1 p R b t ρ (some true) = ev p R b false ρ := rfl
@[simp] theorem kAnd1_b : kAnd1 p R b t ρ (some false) = .ok t ρ := rfl
noncomputable def kAnd (p : Px) (R : RF) (b : Ex) (r : Rs T) : Rs T := r.bd fun t ρ => kAnd1 p R b t ρ (truT t)
@[simp] theorem kAnd_ok : kAnd p R b (.ok t ρ) = kAnd1 p R b t ρ (truT t) := rfl
@[simp] theorem kAnd_ex : kAnd p R b (.ex c x ρ) = .ex c x ρ := rfl
@[simp] theorem kAnd_bad : kAnd p R b .bad = .bad := rfl
@[simp] theorem ev_and : ev p R (.and a b) m ρ = kAnd p R b (ev p R a false ρ) := by
  show Rs.bd (ev p R a false ρ) _ = _
  cases ev p R a false ρ with
  | ok t ρ1 =>
    show (match truT t with | some true => _ | some false => _ | none => _) = kAnd1 p R b t ρ1 (truT t)
    cases truT t with
    | none => rfl
    | some k => cases k <;> rfl
  | ex c e ρ => rfl
  | bad => rfl
noncomputable def kAndT2 (p : Px) (R : RF) (b : Ex) (ρ : Ev) : Bool → Rs Bool
  | true => tv p R b ρ
  | false => .ok false ρ
@[simp] theorem kAndT2_a : kAndT2 p R b ρ true = tv p R b ρ := rfl
@[simp] theorem kAndT2_b : kAndT2 p R b ρ false = .ok false ρ := rfl
noncomputable def kAndT (p : Px) (R : RF) (b : Ex) (r : Rs Bool) : Rs Bool := r.bd fun k ρ => kAndT2 p R b ρ k
@[simp] theorem kAndT_ok : kAndT p R b (.ok k ρ) = kAndT2 p R b ρ k := rfl
@[simp] theorem kAndT_ex : kAndT p R b (.ex c x ρ) = .ex c x ρ := rfl
@[simp] theorem kAndT_bad : kAndT p R b .bad = .bad := rfl
@[simp] theorem tv_and : tv p R (.and a b) ρ = kAndT p R b (tv p R a ρ) := by
  show Rs.bd (tv p R a ρ) _ = _
  cases tv p R a ρ with
  | ok k ρ1 => cases k <;> rfl
  | ex c e ρ => rfl
  | bad => rfl
noncomputable def kOr1 (p : Px) (R : RF) (b : Ex) (t : T) (ρ : Ev) : Option Bool → Rs T
  | some false => ev p R b false ρ
  | some true => .ok t ρ
  | none => .bad
@[simp] theorem kOr1_a : kOr1 p R b t ρ (some false) = ev p R b false ρ := rfl
@[simp] theorem kOr1_b : kOr1 p R b t ρ (some true) = .ok t ρ := rfl
noncomputable def kOr (p : Px) (R : RF) (b : Ex) (r : Rs T) : Rs T := r.bd fun t ρ => kOr1 p R b t ρ (truT t)
@[simp] theorem kOr_ok : kOr p R b (.ok t ρ) = kOr1 p R b t ρ (truT t) := rfl
@[simp] theorem kOr_ex : kOr p R b (.ex c x ρ) = .ex c x ρ := rfl
@[simp] theorem kOr_bad : kOr p R b .bad = .bad := rfl
@[simp] theorem ev_or : ev p R (.or a b) m ρ = kOr p R b (ev p R a false ρ) := by
  show Rs.bd (ev p R a false ρ) _ = _
  cases ev p R a false ρ with
  | ok t ρ1 =>
    show (match truT t with | some true => _ | some false => _ | none => _) = kOr1 p R b t ρ1 (truT t)
    cases truT t with
    | none => rfl
    | some k => cases k <;> rfl
  | ex c e ρ => rfl
  | bad => rfl
noncomputable def kOrT2 (p : Px) (R : RF) (b : Ex) (ρ : Ev) : Bool → Rs Bool
  | false => tv p R b ρ
  | true => .ok true ρ
@[simp] theorem kOrT2_a : kOrT2 p R b ρ false = tv p R b ρ := rfl
@[simp] theorem kOrT2_b : kOrT2 p R b ρ true = .ok true ρ := rfl
noncomputable def kOrT (p : Px) (R : RF) (b : Ex) (r : Rs Bool) : Rs Bool := r.bd fun k ρ => kOrT2 p R b ρ k
@[simp] theorem kOrT_ok : kOrT p R b (.ok k ρ) = kOrT2 p R b ρ k := rfl
@[simp] theorem kOrT_ex : kOrT p R b (.ex c x ρ) = .ex c x ρ := rfl
@[simp] theorem kOrT_bad : kOrT p R b .bad = .bad := rfl
@[simp] theorem tv_or : tv p R (.or a b) ρ = kOrT p R b (tv p R a ρ) := by
  show Rs.bd (tv p R a ρ) _ = _
  cases tv p R a ρ with
  | ok k ρ1 => cases k <;> rfl
  | ex c e ρ => rfl
  | bad => rfl
noncomputable def kIf (p : Px) (R : RF) (m : Bool) (a b : Ex) (ρ : Ev) : Bool → Rs T
  | true => ev p R a m ρ
  | false => ev p R b m ρ
@[simp] theorem kIf_t : kIf p R m a b ρ true = ev p R a m ρ := rfl
@[simp] theorem kIf_f : kIf p R m a b ρ false = ev p R b m ρ := rfl
noncomputable def kIte (p : Px) (R : RF) (m : Bool) (a b : Ex) (r : Rs Bool) : Rs T := r.bd fun k ρ => kIf p R m a b ρ k
@[simp] theorem kIte_ok : kIte p R m a b (.ok k ρ) = kIf p R m a b ρ k := rfl
@[simp] theorem kIte_ex : kIte p R m a b (.ex c x ρ) = .ex c x ρ := rfl
@[simp] theorem kIte_bad : kIte p R m a b .bad = .bad := rfl
@[simp] theorem ev_ite : ev p R (.ite d a b) m ρ = kIte p R m a b (tv p R d ρ) := by
  show Rs.bd (tv p R d ρ) _ = _
  cases tv p R d ρ with
  | ok k ρ1 => cases k <;> rfl
  | ex c e ρ => rfl
  | bad => rfl
noncomputable def kIfT (p : Px) (R : RF) (a b : Ex) (ρ : Ev) : Bool → Rs Bool
  | true => tv p R a ρ
  | false => tv p R b ρ
@[simp] theorem kIfT_t : kIfT p R a b ρ true = tv p R a ρ := rfl
@[simp] theorem kIfT_f : kIfT p R a b ρ false = tv p R b ρ := rfl
noncomputable def kIteT (p : Px) (R : RF) (a b : Ex) (r : Rs Bool) : Rs Bool := r.bd fun k ρ => kIfT p R a b ρ k
@[simp] theorem kIteT_ok : kIteT p R a b (.ok k ρ) = kIfT p R a b ρ k := rfl
@[simp] theorem kIteT_ex : kIteT p R a b (.ex c x ρ) = .ex c x ρ := rfl
@[simp] theorem kIteT_bad : kIteT p R a b .bad = .bad := rfl
@[simp] theorem tv_ite : tv p R (.ite d a b) ρ = kIteT p R a b (tv p R d ρ) := by
  show Rs.bd (tv p R d ρ) _ = _
  cases tv p R d ρ with
  | ok k ρ1 => cases k <;> rfl
  | ex c e ρ => rfl
  | bad => rfl
noncomputable def kC2 (op : CmpOp) (ta : T) (r : Rs T) : Rs T := r.bd fun tb ρ2 => rO (cmpF op ta tb) ρ2
@[simp] theorem kC2_ok : kC2 cp u (.ok t ρ) = rO (cmpF cp u t) ρ := rfl
@[simp] theorem kC2_ex : kC2 cp u (.ex c x ρ) = .ex c x ρ := rfl
@[simp] theorem kC2_bad : kC2 cp u .bad = .bad := rfl
noncomputable def kC1 (p : Px) (R : RF) (op : CmpOp) (b : Ex) (r : Rs T) : Rs T := r.bd fun ta ρ1 => kC2 op ta (ev p R b false ρ1)
@[simp] theorem kC1_ok : kC1 p R cp b (.ok t ρ) = kC2 cp t (ev p R b false ρ) := rfl
@[simp] theorem kC1_ex : kC1 p R cp b (.ex c x ρ) = .ex c x ρ := rfl
@[simp] theorem kC1_bad : kC1 p R cp b .bad = .bad := rfl
noncomputable def kC (p : Px) (R : RF) (op : CmpOp) (a b : Ex) (ρ : Ev) : Bool → Rs T
  | true => rO (cmpQ op (cq p a ρ) (cq p b ρ)) ρ
  | false => kC1 p R op b (ev p R a false ρ)
@[simp] theorem kC_t : kC p R cp a b ρ true = rO (cmpQ cp (cq p a ρ) (cq p b ρ)) ρ := rfl
@[simp] theorem kC_f : kC p R cp a b ρ false = kC1 p R cp b (ev p R a false ρ) := rfl
@[simp] theorem ev_cmp : ev p R (.cmp cp a b) m ρ = kC p R cp a b ρ (quiet a && quiet b) := by show (match quiet a && quiet b with | true => _ | false => _) = _; cases quiet a && quiet b <;> rfl
@[simp] theorem cmpQ_some : cmpQ cp (some t) (some u) = cmpF cp t u := rfl
@[simp] theorem cmpF_eq : cmpF cp t u = (cmpT cp t u).map .b := by unfold cmpF; cases cmpT cp t u <;> rfl
noncomputable def kT1  (r : Rs T) : Rs Bool := r.bd fun t ρ => rO (truT t) ρ
@[simp] theorem kT1_ok : kT1 (.ok t ρ) = rO (truT t) ρ := rfl
@[simp] theorem kT1_ex : kT1 (.ex c x ρ) = .ex c x ρ := rfl
@[simp] theorem kT1_bad : kT1 .bad = .bad := rfl
noncomputable def kT (p : Px) (R : RF) (e : Ex) (ρ : Ev) : Bool → Rs Bool
  | true => truQ (cq p e ρ) ρ
  | false => kT1 (ev p R e false ρ)
@[simp] theorem kT_t : kT p R e ρ true = truQ (cq p e ρ) ρ := rfl
@[simp] theorem kT_f : kT p R e ρ false = kT1 (ev p R e false ρ) := rfl
theorem kT_mk {e : Ex} {v : FE} (hf : f2 p R e = mkf p e v) : tv p R e ρ = kT p R e ρ (quiet e) := by
  unfold tv kT kT1 ev
  rw [hf]
  show (match quiet e with | true => _ | false => _) = _
  cases quiet e <;> rfl
@[simp] theorem tv_var : tv p R (.var i) ρ = kT p R (.var i) ρ (quiet (.var i)) := kT_mk rfl
@[simp] theorem tv_int : tv p R (.int n) ρ = kT p R (.int n) ρ (quiet (.int n)) := kT_mk rfl
@[simp] theorem tv_bl : tv p R (.bl k) ρ = kT p R (.bl k) ρ (quiet (.bl k)) := kT_mk rfl
@[simp] theorem tv_non : tv p R (.non) ρ = kT p R (.non) ρ (quiet (.non)) := kT_mk rfl
@[simp] theorem tv_str : tv p R (.str s) ρ = kT p R (.str s) ρ (quiet (.str s)) := kT_mk rfl
@[simp] theorem tv_cmp : tv p R (.cmp cp a b) ρ = kT p R (.cmp cp a b) ρ (quiet (.cmp cp a b)) := kT_mk rfl
@[simp] theorem tv_bin : tv p R (.bin op a b) ρ = kT p R (.bin op a b) ρ (quiet (.bin op a b)) := kT_mk rfl
@[simp] theorem tv_neg : tv p R (.neg a) ρ = kT p R (.neg a) ρ (quiet (.neg a)) := kT_mk rfl
@[simp] theorem tv_lst : tv p R (.lst es) ρ = kT p R (.lst es) ρ (quiet (.lst es)) := kT_mk rfl
@[simp] theorem tv_tup : tv p R (.tup es) ρ = kT p R (.tup es) ρ (quiet (.tup es)) := kT_mk rfl
@[simp] theorem tv_call : tv p R (.call i es) ρ = kT p R (.call i es) ρ (quiet (.call i es)) := kT_mk rfl
@[simp] theorem tv_meth : tv p R (.meth s c i a es) ρ = kT p R (.meth s c i a es) ρ (quiet (.meth s c i a es)) := kT_mk rfl
@[simp] theorem tv_attr : tv p R (.attr a s) ρ = kT p R (.attr a s) ρ (quiet (.attr a s)) := kT_mk rfl
@[simp] theorem tv_idx : tv p R (.idx a b) ρ = kT p R (.idx a b) ρ (quiet (.idx a b)) := kT_mk rfl
@[simp] theorem tv_slc : tv p R (.slc a b d) ρ = kT p R (.slc a b d) ρ (quiet (.slc a b d)) := kT_mk rfl
@[simp] theorem tv_chain {c1 c2 : CmpOp} : tv p R (.chain c1 c2 a b d) ρ = kT p R (.chain c1 c2 a b d) ρ (quiet (.chain c1 c2 a b d)) := kT_mk rfl
@[simp] theorem tv_blt {q : Bl} : tv p R (.blt q es) ρ = kT p R (.blt q es) ρ (quiet (.blt q es)) := kT_mk (by unfold f2; rfl)
@[simp] theorem tv_mth {q : Mt} : tv p R (.mth q a es) ρ = kT p R (.mth q a es) ρ (quiet (.mth q a es)) := kT_mk (by unfold f2; rfl)
noncomputable def kH4 (op : CmpOp) (tb : T) (r : Rs T) : Rs T := r.bd fun tc ρ => rO (cmpF op tb tc) ρ
@[simp] theorem kH4_ok : kH4 cp u (.ok t ρ) = rO (cmpF cp u t) ρ := rfl
@[simp] theorem kH4_ex : kH4 cp u (.ex c x ρ) = .ex c x ρ := rfl
@[simp] theorem kH4_bad : kH4 cp u .bad = .bad := rfl
noncomputable def kH3 (p : Px) (R : RF) (op : CmpOp) (d : Ex) (tb : T) (ρ : Ev) : Option Bool → Rs T
  | some true => kH4 op tb (ev p R d false ρ)
  | some false => .ok (.b false) ρ
  | none => .bad
@[simp] theorem kH3_t : kH3 p R cp d t ρ (some true) = kH4 cp t (ev p R d false ρ) := rfl
@[simp] theorem kH3_f : kH3 p R cp d t ρ (some false) = .ok (.b false) ρ := rfl
noncomputable def kH2 (p : Px) (R : RF) (o1 o2 : CmpOp) (d : Ex) (ta : T) (r : Rs T) : Rs T := r.bd fun tb ρ => kH3 p R o2 d tb ρ (cmpT o1 ta tb)
noncomputable def kH1 (p : Px) (R : RF) (o1 o2 : CmpOp) (b d : Ex) (r : Rs T) : Rs T := r.bd fun ta ρ => kH2 p R o1 o2 d ta (ev p R b false ρ)
@[simp] theorem kH2_ok {c1 c2 : CmpOp} : kH2 p R c1 c2 d u (.ok t ρ) = kH3 p R c2 d t ρ (cmpT c1 u t) := rfl
@[simp] theorem kH2_ex {c1 c2 : CmpOp} : kH2 p R c1 c2 d u (.ex c x ρ) = .ex c x ρ := rfl
@[simp] theorem kH2_bad {c1 c2 : CmpOp} : kH2 p R c1 c2 d u .bad = .bad := rfl
@[simp] theorem kH1_ok {c1 c2 : CmpOp} : kH1 p R c1 c2 b d (.ok t ρ) = kH2 p R c1 c2 d t (ev p R b false ρ) := rfl
@[simp] theorem kH1_ex {c1 c2 : CmpOp} : kH1 p R c1 c2 b d (.ex c x ρ) = .ex c x ρ := rfl
@[simp] theorem kH1_bad {c1 c2 : CmpOp} : kH1 p R c1 c2 b d .bad = .bad := rfl
@[simp] theorem ev_chain {c1 c2 : CmpOp} : ev p R (.chain c1 c2 a b d) m ρ = kH1 p R c1 c2 b d (ev p R a false ρ) := by
  show Rs.bd (ev p R a false ρ) _ = _
  cases ev p R a false ρ with
  | ok ta ρ1 =>
    show Rs.bd (ev p R b false ρ1) _ = kH2 p R c1 c2 d ta (ev p R b false ρ1)
    cases ev p R b false ρ1 with
    | ok tb ρ2 =>
      show (match cmpT c1 ta tb with | some true => _ | some false => _ | none => _) = kH3 p R c2 d tb ρ2 (cmpT c1 ta tb)
      cases cmpT c1 ta tb with
      | none => rfl
      | some k => cases k <;> rfl
    | ex c e ρ => rfl
    | bad => rfl
  | ex c e ρ => rfl
  | bad => rfl
noncomputable def evs (p : Px) (R : RF) (es : List Ex) (m : Bool) (ρ : Ev) : Rs (List T) := fEs p R es m ρ
@[simp] theorem evs_nil : evs p R [] m ρ = .ok [] ρ := rfl
noncomputable def kE2 (t : T) (r : Rs (List T)) : Rs (List T) := r.bd fun ts ρ => .ok (t :: ts) ρ
@[simp] theorem kE2_ok : kE2 t (.ok ts ρ) = .ok (t :: ts) ρ := rfl
@[simp] theorem kE2_ex : kE2 t (.ex c x ρ) = .ex c x ρ := rfl
@[simp] theorem kE2_bad : kE2 t .bad = .bad := rfl
noncomputable def kE1 (p : Px) (R : RF) (es : List Ex) (m : Bool) (r : Rs T) : Rs (List T) := r.bd fun t ρ => kE2 t (evs p R es m ρ)
@[simp] theorem kE1_ok : kE1 p R es m (.ok t ρ) = kE2 t (evs p R es m ρ) := rfl
@[simp] theorem kE1_ex : kE1 p R es m (.ex c x ρ) = .ex c x ρ := rfl
@[simp] theorem kE1_bad : kE1 p R es m .bad = .bad := rfl
@[simp] theorem evs_cons : evs p R (e :: es) m ρ = kE1 p R es m (ev p R e (m && mvE e es) ρ) := rfl
noncomputable def kL  (r : Rs (List T)) : Rs T := r.bd lstF
@[simp] theorem kL_ok : kL (.ok ts ρ) = lstF ts ρ := rfl
@[simp] theorem kL_ex : kL (.ex c x ρ) = .ex c x ρ := rfl
@[simp] theorem kL_bad : kL .bad = .bad := rfl
noncomputable def kP  (r : Rs (List T)) : Rs T := r.bd tupF
@[simp] theorem kP_ok : kP (.ok ts ρ) = tupF ts ρ := rfl
@[simp] theorem kP_ex : kP (.ex c x ρ) = .ex c x ρ := rfl
@[simp] theorem kP_bad : kP .bad = .bad := rfl
@[simp] theorem ev_lst : ev p R (.lst es) m ρ = kL (evs p R es m ρ) := rfl
@[simp] theorem ev_tup : ev p R (.tup es) m ρ = kP (evs p R es m ρ) := rfl
@[simp] theorem lstF_eq : lstF ts ρ = rO (gd (ts.length ≤ 16777216) (some (.nd .lst true ts))) ρ := rfl
@[simp] theorem tupF_eq : tupF ts ρ = rO (gd (ts.length ≤ 16777216) (some (.tup ts))) ρ := rfl
@[simp] theorem ev_dct0 : ev p R (.dct [] []) m ρ = .ok (.nd (.dct []) true []) ρ := rfl
noncomputable def fds (p : Px) (R : RF) (ks vs : List Ex) (ρ : Ev) : Rs (List Key × List T) := fDs p R ks (f1s p R vs) ρ
@[simp] theorem fds_nil : fds p R [] [] ρ = .ok ([], []) ρ := rfl
noncomputable def kD3 (x : Key) (t : T) (r : Rs (List Key × List T)) : Rs (List Key × List T) := r.bd fun q ρ => .ok (x :: q.1, t :: q.2) ρ
@[simp] theorem kD3_ok {y : Key} {xs : List Key} : kD3 y t (.ok (xs, ts) ρ) = .ok (y :: xs, t :: ts) ρ := rfl
noncomputable def kD2 (p : Px) (R : RF) (ks vs : List Ex) (x : Key) (r : Rs T) : Rs (List Key × List T) := r.bd fun t ρ => kD3 x t (fds p R ks vs ρ)
noncomputable def kD1' (p : Px) (R : RF) (ks : List Ex) (v : Ex) (vs : List Ex) (ρ : Ev) : Option Key → Rs (List Key × List T)
  | some x => kD2 p R ks vs x (ev p R v false ρ)
  | none => .bad
@[simp] theorem kD1'_some {ks vs : List Ex} {y : Key} : kD1' p R ks a vs ρ (some y) = kD2 p R ks vs y (ev p R a false ρ) := rfl
noncomputable def kD1 (p : Px) (R : RF) (ks : List Ex) (v : Ex) (vs : List Ex) (r : Rs T) : Rs (List Key × List T) := r.bd fun t ρ => kD1' p R ks v vs ρ (toKey t)
@[simp] theorem kD2_ok {ks vs : List Ex} {y : Key} : kD2 p R ks vs y (.ok t ρ) = kD3 y t (fds p R ks vs ρ) := rfl
@[simp] theorem kD2_ex {ks vs : List Ex} {y : Key} : kD2 p R ks vs y (.ex c x ρ) = .ex c x ρ := rfl
@[simp] theorem kD2_bad {ks vs : List Ex} {y : Key} : kD2 p R ks vs y .bad = .bad := rfl
@[simp] theorem kD1_ok {ks vs : List Ex} : kD1 p R ks a vs (.ok t ρ) = kD1' p R ks a vs ρ (toKey t) := rfl
@[simp] theorem kD1_ex {ks vs : List Ex} : kD1 p R ks a vs (.ex c x ρ) = .ex c x ρ := rfl
@[simp] theorem kD1_bad {ks vs : List Ex} : kD1 p R ks a vs .bad = .bad := rfl
@[simp] theorem fds_cons {ks vs : List Ex} : fds p R (e :: ks) (a :: vs) ρ = kD1 p R ks a vs (ev p R e false ρ) := by
  show Rs.bd (ev p R e false ρ) _ = _
  cases ev p R e false ρ with
  | ok t ρ1 =>
    show (match toKey t with | some x => _ | none => _) = kD1' p R ks a vs ρ1 (toKey t)
    cases toKey t <;> rfl
  | ex c e ρ => rfl
  | bad => rfl
noncomputable def kD (r : Rs (List Key × List T)) : Rs T := r.bd fun q ρ => dctF q.1 q.2 ρ
@[simp] theorem kD_ok {xs : List Key} : kD (.ok (xs, ts) ρ) = rO (gd (xs.Nodup ∧ xs.length ≤ 15) (some (.nd (.dct xs) true ts))) ρ := rfl
@[simp] theorem ev_dct {ks vs : List Ex} : ev p R (.dct (e :: ks) vs) m ρ = kD (fds p R (e :: ks) vs ρ) := rfl
noncomputable def kAv (p : Px) (R : RF) (e : Ex) (ρ : Ev) : Option Nat → Rs Ag
  | some i => sld i ρ (ρ[i]?)
  | none => (ev p R e false ρ).bd fun t ρ1 => .ok (.t t) ρ1
noncomputable def kAt (r : Rs T) : Rs Ag := r.bd fun t ρ => .ok (.t t) ρ
@[simp] theorem kAv_some : kAv p R e ρ (some i) = sld i ρ (ρ[i]?) := rfl
@[simp] theorem kAv_none : kAv p R e ρ none = kAt (ev p R e false ρ) := rfl
@[simp] theorem av_eq : av p R e ρ = kAv p R e ρ (isVarE e) := by unfold av agF kAv; cases isVarE e <;> rfl
@[simp] theorem sld_some : sld i ρ (some t) = slv (isUn t) i ρ := rfl
@[simp] theorem slv_f : slv false i ρ = .ok (.v i) ρ := rfl
@[simp] theorem kAt_ok : kAt (.ok t ρ) = .ok (.t t) ρ := rfl
@[simp] theorem kAt_ex : kAt (.ex c x ρ) = .ex c x ρ := rfl
@[simp] theorem kAt_bad : kAt .bad = .bad := rfl
noncomputable def avs (p : Px) (R : RF) (es : List Ex) (ρ : Ev) : Rs (List Ag) := fAs p R es ρ
@[simp] theorem avs_nil : avs p R [] ρ = .ok [] ρ := rfl
noncomputable def kA2 (g : Ag) (r : Rs (List Ag)) : Rs (List Ag) := r.bd fun gs ρ => .ok (g :: gs) ρ
@[simp] theorem kA2_ok {g : Ag} {gs : List Ag} : kA2 g (.ok gs ρ) = .ok (g :: gs) ρ := rfl
@[simp] theorem kA2_ex {g : Ag} {gs : List Ag} : kA2 g (.ex c x ρ) = .ex c x ρ := rfl
@[simp] theorem kA2_bad {g : Ag} {gs : List Ag} : kA2 g .bad = .bad := rfl
noncomputable def kA1 (p : Px) (R : RF) (es : List Ex) (r : Rs Ag) : Rs (List Ag) := r.bd fun g ρ => kA2 g (avs p R es ρ)
@[simp] theorem kA1_ok {g : Ag} : kA1 p R es (.ok g ρ) = kA2 g (avs p R es ρ) := rfl
@[simp] theorem kA1_ex {g : Ag} : kA1 p R es (.ex c x ρ) = .ex c x ρ := rfl
@[simp] theorem kA1_bad {g : Ag} : kA1 p R es .bad = .bad := rfl
@[simp] theorem avs_cons : avs p R (e :: es) ρ = kA1 p R es (av p R e ρ) := rfl
def kR (as : List Ag) (ts : List T) (ρ : Ev) : Rc → Rs T
  | .ok r os => .ok r (back as ts os ρ)
  | .ex c e => .ex c e ρ
  | .bad => .bad
@[simp] theorem kR_ok {gs : List Ag} : kR gs ts ρ (.ok t os) = .ok t (back gs ts os ρ) := rfl
@[simp] theorem kR_ex {gs : List Ag} : kR gs ts ρ (.ex c x) = .ex c x ρ := rfl
@[simp] theorem kR_bad {gs : List Ag} : kR gs ts ρ .bad = .bad := rfl
def callG (as : List Ag) (R : RF) (f : Nat) (o : Option (List T × Ev)) : Rs T := callF as (R f) o
@[simp] theorem callG_some {gs : List Ag} : callG gs R i (some (ts, ρ)) = kR gs ts ρ (R i ts) := by show (match R i ts with | .ok r os => _ | .ex c e => _ | .bad => _) = _; cases R i ts <;> rfl
def newG (c : Str) (as : List Ag) (R : RF) (f : Nat) (o : Option (List T × Ev)) : Rs T := newF c as (R f) o
def kW (as : List Ag) (ts : List T) (ρ : Ev) : Rc → Rs T := newK as ts ρ
def kW1 (as : List Ag) (ts os : List T) (ρ : Ev) (o : T) : Bool → Rs T
  | false => .ok o (back as ts os ρ)
  | true => .bad
@[simp] theorem kW1_f {gs : List Ag} : kW1 gs ts os ρ t false = .ok t (back gs ts os ρ) := rfl
@[simp] theorem kW_ok {gs : List Ag} : kW gs ts ρ (.ok .n (t :: os)) = kW1 gs ts os ρ t (isUn t) := by show (match T.n, isUn t with | .lf .non, false => _ | _, _ => _) = _; cases isUn t <;> rfl
@[simp] theorem kW_ex {gs : List Ag} : kW gs ts ρ (.ex c x) = .ex c x ρ := rfl
@[simp] theorem newG_some {gs : List Ag} : newG c gs R i (some (ts, ρ)) = kW gs ts ρ (R i (.nd (.obj c []) true [] :: ts)) := rfl
noncomputable def kCall (R : RF) (f : Nat) (r : Rs (List Ag)) : Rs T := r.bd fun as ρ => callG as R f (lend as ρ)
@[simp] theorem kCall_ok {gs : List Ag} : kCall R i (.ok gs ρ) = callG gs R i (lend gs ρ) := rfl
@[simp] theorem kCall_ex {gs : List Ag} : kCall R i (.ex c x ρ) = .ex c x ρ := rfl
@[simp] theorem kCall_bad {gs : List Ag} : kCall R i .bad = .bad := rfl
noncomputable def kNew (c : Str) (R : RF) (f : Nat) (r : Rs (List Ag)) : Rs T := r.bd fun as ρ => newG c as R f (lend as ρ)
@[simp] theorem kNew_ok {gs : List Ag} : kNew s R i (.ok gs ρ) = newG s gs R i (lend gs ρ) := rfl
@[simp] theorem kNew_ex {gs : List Ag} : kNew s R i (.ex c x ρ) = .ex c x ρ := rfl
@[simp] theorem kNew_bad {gs : List Ag} : kNew s R i .bad = .bad := rfl
@[simp] theorem ev_call : ev p R (.call i es) m ρ = kCall R i (avs p R es ρ) := rfl
@[simp] theorem ev_new : ev p R (.new s i es) m ρ = kNew s R i (avs p R es ρ) := rfl
noncomputable def kM2 (R : RF) (f : Nat) (a : Ag) (r : Rs (List Ag)) : Rs T := r.bd fun as ρ => callG (a :: as) R f (lend (a :: as) ρ)
@[simp] theorem kM2_ok {g : Ag} {gs : List Ag} : kM2 R i g (.ok gs ρ) = callG (g :: gs) R i (lend (g :: gs) ρ) := rfl
@[simp] theorem kM2_ex {g : Ag} {gs : List Ag} : kM2 R i g (.ex c x ρ) = .ex c x ρ := rfl
@[simp] theorem kM2_bad {g : Ag} {gs : List Ag} : kM2 R i g .bad = .bad := rfl
noncomputable def kM1 (p : Px) (R : RF) (f : Nat) (es : List Ex) (a : Ag) (ρ : Ev) : Bool → Rs T
  | true => kM2 R f a (avs p R es ρ)
  | false => .bad
@[simp] theorem kM1_t {g : Ag} : kM1 p R i es g ρ true = kM2 R i g (avs p R es ρ) := rfl
noncomputable def kM (p : Px) (R : RF) (c mn : Str) (f : Nat) (es : List Ex) (r : Rs Ag) : Rs T := r.bd fun a ρ => kM1 p R f es a ρ (isObj c mn (agT a ρ))
@[simp] theorem kM_ok {g : Ag} {c1 : Str} : kM p R s c1 i es (.ok g ρ) = kM1 p R i es g ρ (isObj s c1 (agT g ρ)) := rfl
@[simp] theorem kM_ex {g : Ag} {c1 : Str} : kM p R s c1 i es (.ex c x ρ) = .ex c x ρ := rfl
@[simp] theorem kM_bad {g : Ag} {c1 : Str} : kM p R s c1 i es .bad = .bad := rfl
@[simp] theorem ev_meth {c1 : Str} : ev p R (.meth s c1 i a es) m ρ = kM p R s c1 i es (av p R a ρ) := by
  show Rs.bd (av p R a ρ) _ = _
  cases av p R a ρ with
  | ok g ρ1 =>
    show okIf (isObj s c1 (agT g ρ1)) _ = kM1 p R i es g ρ1 (isObj s c1 (agT g ρ1))
    cases isObj s c1 (agT g ρ1) <;> rfl
  | ex c e ρ => rfl
  | bad => rfl
@[simp] theorem isObj_obj {c1 : Str} {fs : List Str} : isObj s c1 (some (.nd (.obj c fs) k ts)) = (decide (c = s) && !fs.contains c1) := rfl
def lendC (i : Nat) (r : List Ag) (t : T) (ρ : Ev) : Bool → Option (List T × Ev)
  | true => (lend r (ρ.set i .un)).map fun q => (t :: q.1, q.2)
  | false => (lend r ρ).map fun q => (t :: q.1, q.2)
def lendB (i : Nat) (r : List Ag) (t : T) (ρ : Ev) : Bool → Option (List T × Ev)
  | true => none
  | false => lendC i r t ρ (ow t)
def lendA (i : Nat) (r : List Ag) (ρ : Ev) : Option T → Option (List T × Ev)
  | some t => lendB i r t ρ (isUn t)
  | none => none
@[simp] theorem lend_nil : lend [] ρ = some ([], ρ) := rfl
@[simp] theorem lend_t {gs : List Ag} : lend (.t t :: gs) ρ = (lend gs ρ).map fun q => (t :: q.1, q.2) := rfl
@[simp] theorem lend_v {gs : List Ag} : lend (.v i :: gs) ρ = lendA i gs ρ (ρ[i]?) := by
  show (ρ[i]?).bind _ = _
  cases ρ[i]? with
  | none => rfl
  | some t =>
    show (if isUn t = true then none else _) = lendB i gs t ρ (isUn t)
    cases isUn t with
    | true => rfl
    | false =>
      show (lend gs (if ow t = true then _ else _)).map _ = lendC i gs t ρ (ow t)
      cases ow t <;> rfl
@[simp] theorem lendA_some {gs : List Ag} : lendA i gs ρ (some t) = lendB i gs t ρ (isUn t) := rfl
@[simp] theorem lendB_f {gs : List Ag} : lendB i gs t ρ false = lendC i gs t ρ (ow t) := rfl
@[simp] theorem lendC_t {gs : List Ag} : lendC i gs t ρ true = (lend gs (ρ.set i .un)).map fun q => (t :: q.1, q.2) := rfl
@[simp] theorem lendC_f {gs : List Ag} : lendC i gs t ρ false = (lend gs ρ).map fun q => (t :: q.1, q.2) := rfl
def backC (i : Nat) (o : T) (ρ : Ev) : Bool → Ev
  | true => ρ.set i o
  | false => ρ
@[simp] theorem backC_t : backC i t ρ true = ρ.set i t := rfl
@[simp] theorem backC_f : backC i t ρ false = ρ := rfl
@[simp] theorem back_v {gs : List Ag} : back (.v i :: gs) (t :: ts) (u :: us) ρ = back gs ts us (backC i u ρ (ow t)) := by
  show back gs ts us (if ow t = true then _ else _) = _
  cases ow t <;> rfl
@[simp] theorem back_t {gs : List Ag} : back (.t v :: gs) (t :: ts) (u :: us) ρ = back gs ts us ρ := rfl
@[simp] theorem back_nil : back [] ts us ρ = ρ := by cases ts <;> cases us <;> rfl
@[simp] theorem agT_v : agT (.v i) ρ = ρ[i]? := rfl
@[simp] theorem agT_t : agT (.t t) ρ = some t := rfl
noncomputable def kF1 (b : Bl) (r : Rs T) : Rs T := r.bd fun t ρ => rO (bltF b (fz t)) ρ
noncomputable def kF (p : Px) (R : RF) (b : Bl) (a : Ex) (ρ : Ev) : Bool → Rs T
  | true => rO (bltQ b (cq p a ρ)) ρ
  | false => kF1 b (ev p R a false ρ)
@[simp] theorem kF1_ok {q : Bl} : kF1 q (.ok t ρ) = rO (bltF q (fz t)) ρ := rfl
@[simp] theorem kF1_ex {q : Bl} : kF1 q (.ex c x ρ) = .ex c x ρ := rfl
@[simp] theorem kF1_bad {q : Bl} : kF1 q .bad = .bad := rfl
@[simp] theorem kF_t {q : Bl} : kF p R q a ρ true = rO (bltQ q (cq p a ρ)) ρ := rfl
@[simp] theorem kF_f {q : Bl} : kF p R q a ρ false = kF1 q (ev p R a false ρ) := rfl
@[simp] theorem ev_blt1 {q : Bl} : ev p R (.blt q [a]) m ρ = kF p R q a ρ (quiet a) := by show (match quiet a with | true => _ | false => _) = _; cases quiet a <;> rfl
@[simp] theorem bltQ_some {q : Bl} : bltQ q (some t) = bltF q t := rfl
noncomputable def kI1 (p : Px) (d : Ex) (r : Rs T) : Rs T := r.bd fun t ρ => rO (isiF p t d) ρ
noncomputable def kI (p : Px) (R : RF) (a d : Ex) (ρ : Ev) : Bool → Rs T
  | true => rO (isiQ p (cq p a ρ) d) ρ
  | false => kI1 p d (ev p R a false ρ)
@[simp] theorem kI1_ok : kI1 p d (.ok t ρ) = rO (isiF p t d) ρ := rfl
@[simp] theorem kI1_ex : kI1 p d (.ex c x ρ) = .ex c x ρ := rfl
@[simp] theorem kI1_bad : kI1 p d .bad = .bad := rfl
@[simp] theorem kI_t : kI p R a d ρ true = rO (isiQ p (cq p a ρ) d) ρ := rfl
@[simp] theorem kI_f : kI p R a d ρ false = kI1 p d (ev p R a false ρ) := rfl
@[simp] theorem ev_isi : ev p R (.blt .isinst [a, d]) m ρ = kI p R a d ρ (quiet a) := by show (match quiet a with | true => _ | false => _) = _; cases quiet a <;> rfl
@[simp] theorem isiQ_some : isiQ p (some t) d = isiF p t d := rfl
noncomputable def isiK (p : Px) : Option Tag → Option (List Tag) → Option T
  | some tg, some us => gd (okTags p tg us = true) (some (.b (us.any (isi tg))))
  | _, _ => none
@[simp] theorem isiF_eq : isiF p t d = isiK p (tagOf t) (clsOf d) := by unfold isiF isiK; cases tagOf t <;> cases clsOf d <;> rfl
@[simp] theorem isiK_some {tg : Tag} {ug : List Tag} : isiK p (some tg) (some ug) = gd (okTags p tg ug = true) (some (.b (ug.any (isi tg)))) := rfl
noncomputable def kX2 (b : Bl) (ta : T) (r : Rs T) : Rs T := r.bd fun tb ρ => rO (blt2F b ta tb) ρ
noncomputable def kX1 (p : Px) (R : RF) (b : Bl) (d : Ex) (r : Rs T) : Rs T := r.bd fun ta ρ => kX2 b ta (ev p R d false ρ)
@[simp] theorem kX2_ok {q : Bl} : kX2 q u (.ok t ρ) = rO (blt2F q u t) ρ := rfl
@[simp] theorem kX2_ex {q : Bl} : kX2 q u (.ex c x ρ) = .ex c x ρ := rfl
@[simp] theorem kX2_bad {q : Bl} : kX2 q u .bad = .bad := rfl
@[simp] theorem kX1_ok {q : Bl} : kX1 p R q d (.ok t ρ) = kX2 q t (ev p R d false ρ) := rfl
@[simp] theorem kX1_ex {q : Bl} : kX1 p R q d (.ex c x ρ) = .ex c x ρ := rfl
@[simp] theorem kX1_bad {q : Bl} : kX1 p R q d .bad = .bad := rfl
@[simp] theorem ev_max2 : ev p R (.blt .max [a, d]) m ρ = kX1 p R .max d (ev p R a false ρ) := rfl
@[simp] theorem ev_min2 : ev p R (.blt .min [a, d]) m ρ = kX1 p R .min d (ev p R a false ρ) := rfl
def kPut1 (t : T) : Option Ev → Rs T
  | some ρ => .ok t ρ
  | none => .bad
def kPut (p : Px) (o : Ex) (ρ : Ev) : Option (T × T) → Rs T
  | some (t', r) => kPut1 r (cput p o ρ t')
  | none => .bad
@[simp] theorem kPut_some : kPut p a ρ (some (t, u)) = kPut1 u (cput p a ρ t) := rfl
@[simp] theorem kPut1_some : kPut1 t (some ρ) = .ok t ρ := rfl
theorem putK_eq {q : Option (T × T)} : putK p a ρ q = kPut p a ρ q := by
  cases q with
  | none => rfl
  | some q => obtain ⟨t, r⟩ := q; show (match cput p a ρ t with | some ρ1 => _ | none => _) = kPut1 r (cput p a ρ t); cases cput p a ρ t <;> rfl
@[simp] theorem ev_mth0 {q : Mt} : ev p R (.mth q a []) m ρ = kPut p a ρ (mth0Q q (cq p a ρ)) := putK_eq
@[simp] theorem mth0Q_some {q : Mt} : mth0Q q (some t) = mth0F q t := rfl
def kG2 (j : Nat) (ρ : Ev) : Option (T × T) → Rs T := mthK j ρ
@[simp] theorem kG2_some : kG2 j ρ (some (t, u)) = .ok u (ρ.set j t) := rfl
noncomputable def kG1 (k : Mt) (j : Nat) (r : Rs T) : Rs T := r.bd fun te ρ => kG2 j ρ (mth1V k ρ[j]? te)
noncomputable def kG (p : Px) (R : RF) (k : Mt) (j : Nat) (e : Ex) (ρ : Ev) : Bool → Rs T
  | true => kG1 k j (ev p R e false ρ)
  | false => .bad
noncomputable def kQm (p : Px) (o e : Ex) (k : Mt) (ρ : Ev) : Bool → Rs T
  | true => kPut p o ρ (mth1Q k (cq p o ρ) (cq p e ρ))
  | false => .bad
noncomputable def kMt (p : Px) (R : RF) (k : Mt) (o e : Ex) (ρ : Ev) : Option Nat → Rs T
  | some j => kG p R k j e ρ (isLstQ ρ[j]? && isM1 k)
  | none => kQm p o e k ρ (quiet e)
@[simp] theorem kMt_some {q : Mt} : kMt p R q a e ρ (some j) = kG p R q j e ρ (isLstQ ρ[j]? && isM1 q) := rfl
@[simp] theorem kMt_none {q : Mt} : kMt p R q a e ρ none = kQm p a e q ρ (quiet e) := rfl
@[simp] theorem kG_t {q : Mt} : kG p R q j e ρ true = kG1 q j (ev p R e false ρ) := rfl
@[simp] theorem kQm_t {q : Mt} : kQm p a e q ρ true = kPut p a ρ (mth1Q q (cq p a ρ) (cq p e ρ)) := rfl
@[simp] theorem isLstQ_some : isLstQ (some t) = isLst t := rfl
@[simp] theorem kG1_ok {q : Mt} : kG1 q j (.ok t ρ) = kG2 j ρ (mth1V q ρ[j]? t) := rfl
@[simp] theorem kG1_ex {q : Mt} : kG1 q j (.ex c x ρ) = .ex c x ρ := rfl
@[simp] theorem kG1_bad {q : Mt} : kG1 q j .bad = .bad := rfl
@[simp] theorem ev_mth1 {q : Mt} : ev p R (.mth q a [e]) m ρ = kMt p R q a e ρ (isVarE a) := by
  show (match isVarE a with | some j => okIf _ _ | none => okIf _ _) = _
  cases isVarE a with
  | some j =>
    show okIf (isLstQ ρ[j]? && isM1 q) _ = kG p R q j e ρ (isLstQ ρ[j]? && isM1 q)
    cases (isLstQ ρ[j]? && isM1 q) <;> rfl
  | none =>
    show okIf (quiet e) (putK p a ρ _) = kQm p a e q ρ (quiet e)
    rw [putK_eq]
    cases quiet e <;> rfl
noncomputable def mth1W (q : Mt) (t te : T) : Bool → Option (T × T)
  | false => mth1F q t te
  | true => none
@[simp] theorem mth1W_f {q : Mt} : mth1W q t u false = mth1F q t u := rfl
@[simp] theorem mth1V_some {q : Mt} : mth1V q (some t) u = mth1W q t u (isUn t) := by
  unfold mth1V mth1W
  cases e : isUn t with
  | false => exact gd_t e
  | true => exact if_neg (by rw [e]; decide)
@[simp] theorem mth1Q_some {q : Mt} : mth1Q q (some t) (some u) = mth1W q t u (isUn t || ow u) := by
  unfold mth1Q mth1W
  cases e : isUn t with
  | false =>
    cases e2 : ow u with
    | false => show gd _ (gd _ _) = _; rw [gd_t e, gd_t e2]; rfl
    | true => show gd _ (gd _ _) = _; rw [gd_t e]; exact if_neg (by rw [e2]; decide)
  | true => exact if_neg (by rw [e]; decide)
@[simp] theorem tkq_some : tkq ρ (some t) = tkv t (isUn t) (ow t) ρ := rfl
@[simp] theorem tkv_ff : tkv t false false ρ = .ok t ρ := rfl
noncomputable def kAt1 (p : Px) (f : Str) (r : Rs T) : Rs T := r.bd fun t ρ => tkq ρ (fldT p f (fz t))
noncomputable def kAttr (p : Px) (R : RF) (o : Ex) (f : Str) (ρ : Ev) : Bool → Rs T
  | true => tkq ρ (cq p (.attr o f) ρ)
  | false => kAt1 p f (ev p R o false ρ)
@[simp] theorem kAt1_ok : kAt1 p s (.ok t ρ) = tkq ρ (fldT p s (fz t)) := rfl
@[simp] theorem kAt1_ex : kAt1 p s (.ex c x ρ) = .ex c x ρ := rfl
@[simp] theorem kAt1_bad : kAt1 p s .bad = .bad := rfl
@[simp] theorem kAttr_t : kAttr p R a s ρ true = tkq ρ (cq p (.attr a s) ρ) := rfl
@[simp] theorem kAttr_f : kAttr p R a s ρ false = kAt1 p s (ev p R a false ρ) := rfl
@[simp] theorem ev_attr : ev p R (.attr a s) m ρ = kAttr p R a s ρ (quiet a) := by show (match quiet a with | true => _ | false => _) = _; cases quiet a <;> rfl
noncomputable def kJ1 (j : Nat) (d : Bool) (r : Rs T) : Rs T := r.bd fun ti ρ => tkz j d ti ρ (idxV ρ[j]? d ti)
noncomputable def kJ (p : Px) (R : RF) (j : Nat) (i : Ex) (ρ : Ev) : Bool → Rs T
  | true => kJ1 j (isDctQ ρ[j]?) (ev p R i false ρ)
  | false => .bad
noncomputable def kY2 (t0 : T) (r : Rs T) : Rs T := r.bd fun ti ρ => tkq ρ (idxN t0 ti)
noncomputable def kY1 (p : Px) (R : RF) (i : Ex) (r : Rs T) : Rs T := r.bd fun t0 ρ => kY2 t0 (ev p R i false ρ)
noncomputable def kY (p : Px) (R : RF) (o i : Ex) (ρ : Ev) : Bool → Rs T
  | true => tkq ρ (cq p (.idx o i) ρ)
  | false => kY1 p R i (ev p R o false ρ)
noncomputable def kIdx (p : Px) (R : RF) (o i : Ex) (ρ : Ev) : Option Nat → Rs T
  | some j => kJ p R j i ρ (thereQ ρ[j]?)
  | none => kY p R o i ρ (quiet o && quiet i)
@[simp] theorem kJ1_ok : kJ1 j k (.ok t ρ) = tkz j k t ρ (idxV ρ[j]? k t) := rfl
@[simp] theorem tkz_some : tkz j k u ρ (some t) = tkw j k u t (isUn t) (ow t) ρ := rfl
@[simp] theorem tkw_ff : tkw j k u t false false ρ = .ok t ρ := rfl
@[simp] theorem tkw_ft : tkw j k u t false true ρ = fzI j k u ρ ρ[j]? := rfl
@[simp] theorem fzI_some : fzI j k u ρ (some t) = tkq (ρ.set j (fz t)) (idxV (some (fz t)) k u) := rfl
@[simp] theorem kJ1_ex : kJ1 j k (.ex c x ρ) = .ex c x ρ := rfl
@[simp] theorem kJ1_bad : kJ1 j k .bad = .bad := rfl
@[simp] theorem kY2_ok : kY2 u (.ok t ρ) = tkq ρ (idxN u t) := rfl
@[simp] theorem kY2_ex : kY2 u (.ex c x ρ) = .ex c x ρ := rfl
@[simp] theorem kY2_bad : kY2 u .bad = .bad := rfl
@[simp] theorem kY1_ok : kY1 p R b (.ok t ρ) = kY2 t (ev p R b false ρ) := rfl
@[simp] theorem kY1_ex : kY1 p R b (.ex c x ρ) = .ex c x ρ := rfl
@[simp] theorem kY1_bad : kY1 p R b .bad = .bad := rfl
@[simp] theorem kIdx_some : kIdx p R a b ρ (some j) = kJ p R j b ρ (thereQ ρ[j]?) := rfl
@[simp] theorem kIdx_none : kIdx p R a b ρ none = kY p R a b ρ (quiet a && quiet b) := rfl
@[simp] theorem kJ_t : kJ p R j b ρ true = kJ1 j (isDctQ ρ[j]?) (ev p R b false ρ) := rfl
@[simp] theorem kY_t : kY p R a b ρ true = tkq ρ (cq p (.idx a b) ρ) := rfl
@[simp] theorem kY_f : kY p R a b ρ false = kY1 p R b (ev p R a false ρ) := rfl
@[simp] theorem thereQ_some : thereQ (some t) = !isUn t := rfl
@[simp] theorem isDctQ_some : isDctQ (some t) = isDct t := rfl
def idxW (t0 ti : T) : Bool → Option T
  | true => idxT t0 ti
  | false => none
@[simp] theorem idxW_t : idxW t u true = idxT t u := rfl
@[simp] theorem idxV_some : idxV (some t) k u = idxW t u (!isUn t && isDct t == k) := by
  show (if isUn t = false ∧ isDct t = k then idxT t u else none) = _
  cases isUn t <;> cases isDct t <;> cases k <;> rfl
@[simp] theorem idxN_eq : idxN t u = idxW (fz t) u (!isDct t) := by
  unfold idxN idxW
  cases isDct t <;> rfl
@[simp] theorem ev_idx : ev p R (.idx a b) m ρ = kIdx p R a b ρ (isVarE a) := by
  show (match isVarE a with | some j => okIf _ _ | none => _) = _
  cases isVarE a with
  | some j =>
    show okIf (thereQ ρ[j]?) _ = kJ p R j b ρ (thereQ ρ[j]?)
    cases thereQ ρ[j]? <;> rfl
  | none =>
    show (match quiet a && quiet b with | true => _ | false => _) = kY p R a b ρ (quiet a && quiet b)
    cases (quiet a && quiet b) <;> rfl
noncomputable def kPv1 (r : Rs T) : Rs (Option Int) := r.bd fun t ρ => rO (intQ t) ρ
noncomputable def kPv (p : Px) (R : RF) (e : Ex) (ρ : Ev) : Bool → Rs (Option Int)
  | true => .ok none ρ
  | false => kPv1 (ev p R e false ρ)
@[simp] theorem kPv_t : kPv p R e ρ true = .ok none ρ := rfl
@[simp] theorem kPv_f : kPv p R e ρ false = kPv1 (ev p R e false ρ) := rfl
@[simp] theorem kPv1_ok : kPv1 (.ok t ρ) = rO (intQ t) ρ := rfl
@[simp] theorem intQ_i : intQ (.i n) = some (some n) := rfl
@[simp] theorem pv_eq : pv p R e ρ = kPv p R e ρ (PL.isNon e) := by unfold pv ptF kPv; cases PL.isNon e <;> rfl
noncomputable def kS2 (j : Nat) (l : Option Int) (r : Rs (Option Int)) : Rs T := r.bd fun h ρ => rO (sliceQ ρ[j]? l h) ρ
noncomputable def kS1 (p : Px) (R : RF) (j : Nat) (hi : Ex) (r : Rs (Option Int)) : Rs T := r.bd fun l ρ => kS2 j l (pv p R hi ρ)
noncomputable def kS0 (p : Px) (R : RF) (j : Nat) (lo hi : Ex) (ρ : Ev) : Bool → Rs T
  | true => kS1 p R j hi (pv p R lo ρ)
  | false => .bad
noncomputable def kV2 (t : T) (l : Option Int) (r : Rs (Option Int)) : Rs T := r.bd fun h ρ => rO (sliceF (fz t) l h) ρ
noncomputable def kV1 (p : Px) (R : RF) (hi : Ex) (t : T) (r : Rs (Option Int)) : Rs T := r.bd fun l ρ => kV2 t l (pv p R hi ρ)
noncomputable def kV0 (p : Px) (R : RF) (lo hi : Ex) (r : Rs T) : Rs T := r.bd fun t ρ => kV1 p R hi t (pv p R lo ρ)
noncomputable def kSl (p : Px) (R : RF) (o lo hi : Ex) (ρ : Ev) : Option Nat → Rs T
  | some j => kS0 p R j lo hi ρ (thereQ ρ[j]?)
  | none => kV0 p R lo hi (ev p R o false ρ)
@[simp] theorem kSl_some : kSl p R a b d ρ (some j) = kS0 p R j b d ρ (thereQ ρ[j]?) := rfl
@[simp] theorem kSl_none : kSl p R a b d ρ none = kV0 p R b d (ev p R a false ρ) := rfl
@[simp] theorem kS0_t : kS0 p R j b d ρ true = kS1 p R j d (pv p R b ρ) := rfl
@[simp] theorem kS1_ok {l : Option Int} : kS1 p R j d (.ok l ρ) = kS2 j l (pv p R d ρ) := rfl
@[simp] theorem kS2_ok {l h : Option Int} : kS2 j l (.ok h ρ) = rO (sliceQ ρ[j]? l h) ρ := rfl
@[simp] theorem kV0_ok : kV0 p R b d (.ok t ρ) = kV1 p R d t (pv p R b ρ) := rfl
@[simp] theorem kV1_ok {l : Option Int} : kV1 p R d t (.ok l ρ) = kV2 t l (pv p R d ρ) := rfl
@[simp] theorem kV2_ok {l h : Option Int} : kV2 t l (.ok h ρ) = rO (sliceF (fz t) l h) ρ := rfl
noncomputable def sliceW (t : T) (l h : Option Int) : Bool → Option T
  | false => sliceF t l h
  | true => none
@[simp] theorem sliceW_f {l h : Option Int} : sliceW t l h false = sliceF t l h := rfl
@[simp] theorem sliceQ_some {l h : Option Int} : sliceQ (some t) l h = sliceW t l h (isUn t) := by
  show (if isUn t = false then sliceF t l h else none) = _
  cases isUn t <;> rfl
@[simp] theorem ev_slc : ev p R (.slc a b d) m ρ = kSl p R a b d ρ (isVarE a) := by
  show (match isVarE a with | some j => okIf _ _ | none => _) = _
  cases isVarE a with
  | some j =>
    show okIf (thereQ ρ[j]?) _ = kS0 p R j b d ρ (thereQ ρ[j]?)
    cases thereQ ρ[j]? <;> rfl
  | none => rfl
noncomputable def lcE (acc : List T) (r : Rs T) : Rs (List T) := r.nox.bd fun y ρ => lcAdd acc y ρ
@[simp] theorem lcE_ok {acc : List T} : lcE acc (.ok t ρ) = rO (gd (acc.length < 16777216) (some (acc ++ [t]))) ρ := rfl
noncomputable def lcB (p : Px) (R : RF) (el : Ex) (acc : List T) (ρ : Ev) : Bool → Rs (List T)
  | true => lcE acc (ev p R el false ρ)
  | false => .ok acc ρ
@[simp] theorem lcB_t {acc : List T} : lcB p R e acc ρ true = lcE acc (ev p R e false ρ) := rfl
@[simp] theorem lcB_f {acc : List T} : lcB p R e acc ρ false = .ok acc ρ := rfl
noncomputable def lcC (p : Px) (R : RF) (el : Ex) (acc : List T) (r : Rs Bool) : Rs (List T) := r.bd fun b ρ => lcB p R el acc ρ b
@[simp] theorem lcC_ok {acc : List T} : lcC p R e acc (.ok k ρ) = lcB p R e acc ρ k := rfl
noncomputable def cvs (p : Px) (R : RF) (cs : List Ex) (ρ : Ev) : Rs Bool := fCs p R cs ρ
@[simp] theorem cvs_nil : cvs p R [] ρ = .ok true ρ := rfl
def rnox {α : Type} (r : Rs α) : Rs α := r.nox
@[simp] theorem rnox_ok {α : Type} {a : α} : rnox (.ok a ρ) = .ok a ρ := rfl
@[simp] theorem cvs_cons : cvs p R (e :: es) ρ = rnox (tv p R e ρ) := rfl
noncomputable def lcA (p : Px) (R : RF) (cs : List Ex) (el : Ex) (acc : List T) : Option Ev → Rs (List T)
  | some ρ => lcC p R el acc (cvs p R cs ρ)
  | none => .bad
@[simp] theorem lcA_some {acc : List T} : lcA p R es e acc (some ρ) = lcC p R e acc (cvs p R es ρ) := rfl
/-- a turn of a comprehension -/
noncomputable def lcSt (p : Px) (R : RF) (tg : Tg) (own : List Nat) (cs : List Ex) (el : Ex) (t : T) (acc : List T) (ρ : Ev) : Rs (List T) := lcA p R cs el acc (bindF tg t (wipeE ρ own))
/-- a comprehension's turns -/
noncomputable def lcs (p : Px) (R : RF) (tg : Tg) (own : List Nat) (cs : List Ex) (el : Ex) (its acc : List T) (ρ : Ev) : Rs (List T) := lcF (lcSt p R tg own cs el) its acc ρ
noncomputable def kZ (p : Px) (R : RF) (tg : Tg) (own : List Nat) (cs : List Ex) (el : Ex) (its : List T) (r : Rs (List T)) : Rs (List T) := r.bd fun acc ρ => lcs p R tg own cs el its acc ρ
theorem lcs_nil {tg : Tg} {own : List Nat} {acc : List T} : lcs p R tg own es e [] acc ρ = .ok acc ρ := rfl
theorem lcs_cons {tg : Tg} {own : List Nat} {acc : List T} : lcs p R tg own es e (t :: ts) acc ρ = kZ p R tg own es e ts (lcSt p R tg own es e t acc ρ) := rfl
@[simp] theorem kZ_ok {tg : Tg} {own : List Nat} {acc : List T} : kZ p R tg own es e ts (.ok acc ρ) = lcs p R tg own es e ts acc ρ := rfl
def kLz (as : List Ag) (ts us : List T) (own : List Nat) (ρ2 : Ev) (r : Rs (List T)) : Rs T := r.bd fun acc ρ3 => .ok (.nd .lst true acc) (back as ts us (resE ρ2 own (wipeE ρ3 own)))
@[simp] theorem kLz_ok {gs : List Ag} {own : List Nat} {acc : List T} : kLz gs ts us own ρ2 (.ok acc ρ) = .ok (.nd .lst true acc) (back gs ts us (resE ρ2 own (wipeE ρ own))) := rfl
noncomputable def kLy (p : Px) (R : RF) (tg : Tg) (own : List Nat) (cs : List Ex) (el : Ex) (as : List Ag) : Option (List T × List T × List T × Ev) → Rs T
  | some (its, ts, us, ρ2) => kLz as ts us own ρ2 (lcs p R tg own cs el its [] ρ2)
  | none => .bad
@[simp] theorem kLy_some {its : List T} {tg : Tg} {own : List Nat} {gs : List Ag} : kLy p R tg own es e gs (some (its, ts, us, ρ)) = kLz gs ts us own ρ (lcs p R tg own es e its [] ρ) := rfl
noncomputable def kLx (p : Px) (R : RF) (tg : Tg) (q : Sk) (dv : Bool) (own : List Nat) (cs : List Ex) (el : Ex) (r : Rs (List Ag)) : Rs T := r.bd fun as ρ => kLy p R tg own cs el as (lcSrc q own tg dv (lend as ρ))
@[simp] theorem kLx_ok {tg : Tg} {q : Sk} {own : List Nat} {gs : List Ag} : kLx p R tg q k own es e (.ok gs ρ) = kLy p R tg own es e gs (lcSrc q own tg k (lend gs ρ)) := rfl
@[simp] theorem pre_nil {bd : Nat → Bool} : pre bd [] ρ = ρ := rfl
@[simp] theorem pre_cons {bd : Nat → Bool} : pre bd (e :: es) ρ = pre bd es (preE bd ρ (isVarE e)) := rfl
@[simp] theorem preE_none {bd : Nat → Bool} : preE bd ρ none = ρ := rfl
@[simp] theorem preE_some {bd : Nat → Bool} : preE bd ρ (some j) = frzS j ρ (bd j) ρ[j]? := rfl
@[simp] theorem frzS_some : frzS j ρ k (some t) = frzW j ρ k t (ow t) := rfl
@[simp] theorem frzW_f : frzW j ρ k t false = ρ := rfl
@[simp] theorem frzW_t : frzW j ρ k t true = frzK j ρ t k := rfl
@[simp] theorem frzK_f : frzK j ρ t false = ρ := rfl
@[simp] theorem frzK_t : frzK j ρ t true = ρ.set j (fz t) := rfl
noncomputable def kLv (p : Px) (R : RF) (tg : Tg) (q : Sk) (ss : List Ex) (own : List Nat) (cs : List Ex) (el : Ex) (ρ : Ev) : Rs T := kLx p R tg q (dvar q ss ρ) own cs el (avs p R ss ρ)
@[simp] theorem kLv_eq {tg : Tg} {q : Sk} {ss : List Ex} {own : List Nat} : kLv p R tg q ss own es e (t :: ρ) = kLx p R tg q (dvar q ss (t :: ρ)) own es e (avs p R ss (t :: ρ)) := rfl
noncomputable def kLw (p : Px) (R : RF) (tg : Tg) (q : Sk) (ss : List Ex) (own : List Nat) (cs : List Ex) (el : Ex) (ρ : Ev) : Bool → Rs T
  | true => kLv p R tg q ss own cs el (pre (fun j => mens j (el :: cs)) ss ρ)
  | false => .bad
@[simp] theorem kLw_t {tg : Tg} {q : Sk} {ss : List Ex} {own : List Nat} : kLw p R tg q ss own es e ρ true = kLv p R tg q ss own es e (pre (fun j => mens j (e :: es)) ss ρ) := rfl
theorem lcSt_eq {tg : Tg} {own : List Nat} : (fun t acc ρ => match bindF tg t (wipeE ρ own) with
          | some ρ1 => (fCs p R es ρ1).bd fun b ρ2 => (match b with
            | true => (((f2 p R e).1 false ρ2).nox).bd fun y ρ3 => lcAdd acc y ρ3
            | false => .ok acc ρ2)
          | none => .bad) = lcSt p R tg own es e := by
  funext t acc ρ
  unfold lcSt
  cases bindF tg t (wipeE ρ own) with
  | none => rfl
  | some ρ1 =>
    show (fCs p R es ρ1).bd _ = (fCs p R es ρ1).bd _
    cases fCs p R es ρ1 with
    | ok b ρ2 => cases b <;> rfl
    | ex c e ρ => rfl
    | bad => rfl
@[simp] theorem ev_lc {tg : Tg} {q : Sk} {ss : List Ex} {own : List Nat} : ev p R (.lc e tg q ss es own) m ρ = kLw p R tg q ss own es e ρ (okSk q ss) := by
  show okIf (okSk q ss) _ = _
  cases okSk q ss with
  | false => rfl
  | true =>
    show (fun ρ => _) (pre (fun j => mens j (e :: es)) ss ρ) = kLv p R tg q ss own es e (pre (fun j => mens j (e :: es)) ss ρ)
    generalize pre (fun j => mens j (e :: es)) ss ρ = ρ
    show Rs.bd (fAs p R ss ρ) _ = Rs.bd (fAs p R ss ρ) _
    cases fAs p R ss ρ with
    | ok as ρ1 =>
      show (match lcSrc q own tg (dvar q ss ρ) (lend as ρ1) with | some (its, ts, us, ρ2) => _ | none => _) = kLy p R tg own es e as (lcSrc q own tg (dvar q ss ρ) (lend as ρ1))
      cases lcSrc q own tg (dvar q ss ρ) (lend as ρ1) with
      | none => rfl
      | some z =>
        obtain ⟨its, ts, us, ρ2⟩ := z
        exact congrArg (fun st => (lcF st its [] ρ2).bd fun acc ρ3 => Rs.ok (T.nd Kd.lst true acc) (back as ts us (resE ρ2 own (wipeE ρ3 own)))) (lcSt_eq (p := p) (R := R) (es := es) (e := e) (tg := tg) (own := own))
    | ex c e ρ => rfl
    | bad => rfl
@[simp] theorem itQ_some {its : List T} {q : Sk} : itQ q ts ρ k (some its) = itOw q ts ρ k its (ows its) := rfl
@[simp] theorem itOw_f {its : List T} {q : Sk} : itOw q ts ρ k its false = gd (isDct1 ts = k) (some (its, ts, ts, ρ)) := rfl
@[simp] theorem itOw_t {its : List T} {q : Sk} : itOw q ts ρ k its true = itFz q ts ρ k (itemsT q (fzs ts)) := rfl
@[simp] theorem itFz_some {its : List T} {q : Sk} : itFz q ts ρ k (some its) = gd (k = false) (gd (isDct1 (fzs ts) = false) (gd (ows its = false) (some (its, ts, fzs ts, ρ)))) := rfl
@[simp] theorem lcSrc_some {tg : Tg} {q : Sk} {own : List Nat} : lcSrc q own tg k (some (ts, ρ)) = gd ((tgSl tg).all own.contains = true) (itQ q ts ρ k (itemsT q ts)) := rfl

/-! ### statements -/
noncomputable def sv (p : Px) (R : RF) (XI : Nat → Option (List Str)) (c : Cm) (ρ : Ev) : Fw := fS p R XI c ρ
noncomputable def svs (p : Px) (R : RF) (XI : Nat → Option (List Str)) (c : List Cm) (ρ : Ev) : Fw := fSs p R XI c ρ
variable {cm : Cm} {cs cs2 : List Cm} {g : Tg}
noncomputable def kSq (p : Px) (R : RF) (XI : Nat → Option (List Str)) (cs : List Cm) (o : Fw) : Fw := o.sq (svs p R XI cs)
@[simp] theorem svs_nil : svs p R XI [] ρ = .nx ρ := rfl
@[simp] theorem svs_cons : svs p R XI (cm :: cs) ρ = kSq p R XI cs (sv p R XI cm ρ) := rfl
@[simp] theorem kSq_nx : kSq p R XI cs (.nx ρ) = svs p R XI cs ρ := rfl
@[simp] theorem kSq_rt : kSq p R XI cs (.rt t ρ) = .rt t ρ := rfl
@[simp] theorem kSq_bk : kSq p R XI cs (.bk ρ) = .bk ρ := rfl
@[simp] theorem kSq_ct : kSq p R XI cs (.ct ρ) = .ct ρ := rfl
@[simp] theorem kSq_xc : kSq p R XI cs (.xc c x ρ) = .xc c x ρ := rfl
@[simp] theorem kSq_bad : kSq p R XI cs .bad = .bad := rfl
@[simp] theorem nxO_some : nxO (some ρ) = .nx ρ := rfl
@[simp] theorem sv_pass : sv p R XI .pass ρ = .nx ρ := rfl
@[simp] theorem sv_brk : sv p R XI .brk ρ = .bk ρ := rfl
@[simp] theorem sv_cont : sv p R XI .cont ρ = .ct ρ := rfl
@[simp] theorem sv_retn : sv p R XI .retn ρ = .rt .n ρ := rfl
noncomputable def kAsg (g : Tg) (r : Rs T) : Fw := r.bs fun v ρ => nxO (bindF g v ρ)
@[simp] theorem kAsg_ok : kAsg g (.ok t ρ) = nxO (bindF g t ρ) := rfl
@[simp] theorem kAsg_ex : kAsg g (.ex c x ρ) = .xc c x ρ := rfl
@[simp] theorem kAsg_bad : kAsg g .bad = .bad := rfl
@[simp] theorem sv_asg : sv p R XI (.asg g e) ρ = kAsg g (ev p R e false ρ) := rfl
noncomputable def kPar2 (i j : Nat) (ta : T) (r : Rs T) : Fw := r.bs fun tb ρ => .nx ((ρ.set i ta).set j tb)
@[simp] theorem kPar2_ok : kPar2 i j u (.ok t ρ) = .nx ((ρ.set i u).set j t) := rfl
@[simp] theorem kPar2_ex : kPar2 i j u (.ex c x ρ) = .xc c x ρ := rfl
@[simp] theorem kPar2_bad : kPar2 i j u .bad = .bad := rfl
noncomputable def kPar1 (p : Px) (R : RF) (i j : Nat) (b : Ex) (r : Rs T) : Fw := r.bs fun ta ρ => kPar2 i j ta (ev p R b false ρ)
@[simp] theorem kPar1_ok : kPar1 p R i j b (.ok t ρ) = kPar2 i j t (ev p R b false ρ) := rfl
@[simp] theorem kPar1_ex : kPar1 p R i j b (.ex c x ρ) = .xc c x ρ := rfl
@[simp] theorem kPar1_bad : kPar1 p R i j b .bad = .bad := rfl
@[simp] theorem sv_par2 : sv p R XI (.par2 i j a b) ρ = kPar1 p R i j b (ev p R a false ρ) := rfl
noncomputable def kPar5 (i j k : Nat) (ta tb : T) (r : Rs T) : Fw := r.bs fun tc ρ => .nx (((ρ.set i ta).set j tb).set k tc)
@[simp] theorem kPar5_ok {n : Nat} : kPar5 i j n u v (.ok t ρ) = .nx (((ρ.set i u).set j v).set n t) := rfl
@[simp] theorem kPar5_ex {n : Nat} : kPar5 i j n u v (.ex c x ρ) = .xc c x ρ := rfl
@[simp] theorem kPar5_bad {n : Nat} : kPar5 i j n u v .bad = .bad := rfl
noncomputable def kPar4 (p : Px) (R : RF) (i j k : Nat) (c : Ex) (ta : T) (r : Rs T) : Fw := r.bs fun tb ρ => kPar5 i j k ta tb (ev p R c false ρ)
@[simp] theorem kPar4_ok {n : Nat} : kPar4 p R i j n d u (.ok t ρ) = kPar5 i j n u t (ev p R d false ρ) := rfl
@[simp] theorem kPar4_ex {n : Nat} : kPar4 p R i j n d u (.ex c x ρ) = .xc c x ρ := rfl
@[simp] theorem kPar4_bad {n : Nat} : kPar4 p R i j n d u .bad = .bad := rfl
noncomputable def kPar3 (p : Px) (R : RF) (i j k : Nat) (b c : Ex) (r : Rs T) : Fw := r.bs fun ta ρ => kPar4 p R i j k c ta (ev p R b false ρ)
@[simp] theorem kPar3_ok {n : Nat} : kPar3 p R i j n b d (.ok t ρ) = kPar4 p R i j n d t (ev p R b false ρ) := rfl
@[simp] theorem kPar3_ex {n : Nat} : kPar3 p R i j n b d (.ex c x ρ) = .xc c x ρ := rfl
@[simp] theorem kPar3_bad {n : Nat} : kPar3 p R i j n b d .bad = .bad := rfl
@[simp] theorem sv_par3 {n : Nat} : sv p R XI (.par3 i j n a b d) ρ = kPar3 p R i j n b d (ev p R a false ρ) := rfl
noncomputable def kEx  (r : Rs T) : Fw := r.bs fun _ ρ => .nx ρ
@[simp] theorem kEx_ok : kEx (.ok t ρ) = .nx ρ := rfl
@[simp] theorem kEx_ex : kEx (.ex c x ρ) = .xc c x ρ := rfl
@[simp] theorem kEx_bad : kEx .bad = .bad := rfl
@[simp] theorem sv_ex : sv p R XI (.ex e) ρ = kEx (ev p R e false ρ) := rfl
noncomputable def kRt  (r : Rs T) : Fw := r.bs fun t ρ => .rt t ρ
@[simp] theorem kRt_ok : kRt (.ok t ρ) = .rt t ρ := rfl
@[simp] theorem kRt_ex : kRt (.ex c x ρ) = .xc c x ρ := rfl
@[simp] theorem kRt_bad : kRt .bad = .bad := rfl
@[simp] theorem sv_ret : sv p R XI (.ret e) ρ = kRt (ev p R e true ρ) := rfl
noncomputable def kSif (p : Px) (R : RF) (XI : Nat → Option (List Str)) (a b : List Cm) (ρ : Ev) : Bool → Fw
  | true => svs p R XI a ρ
  | false => svs p R XI b ρ
@[simp] theorem kSif_t : kSif p R XI cs cs2 ρ true = svs p R XI cs ρ := rfl
@[simp] theorem kSif_f : kSif p R XI cs cs2 ρ false = svs p R XI cs2 ρ := rfl
noncomputable def kSi (p : Px) (R : RF) (XI : Nat → Option (List Str)) (a b : List Cm) (r : Rs Bool) : Fw := r.bs fun k ρ => kSif p R XI a b ρ k
@[simp] theorem kSi_ok : kSi p R XI cs cs2 (.ok k ρ) = kSif p R XI cs cs2 ρ k := rfl
@[simp] theorem kSi_ex : kSi p R XI cs cs2 (.ex c x ρ) = .xc c x ρ := rfl
@[simp] theorem kSi_bad : kSi p R XI cs cs2 .bad = .bad := rfl
@[simp] theorem sv_ite : sv p R XI (.ite e cs cs2) ρ = kSi p R XI cs cs2 (tv p R e ρ) := by
  show Rs.bs (tv p R e ρ) _ = _
  cases tv p R e ρ with
  | ok k ρ1 => cases k <;> rfl
  | ex c e ρ => rfl
  | bad => rfl
noncomputable def whs (p : Px) (R : RF) (XI : Nat → Option (List Str)) (e : Ex) (cs : List Cm) (ρ : Ev) : Fw := fWh (tv p R e) (svs p R XI cs) ρ
noncomputable def kWh2 (p : Px) (R : RF) (XI : Nat → Option (List Str)) (e : Ex) (cs : List Cm) (o : Fw) : Fw := o.tn fun ρ => whs p R XI e cs ρ
noncomputable def kWh3 (p : Px) (R : RF) (XI : Nat → Option (List Str)) (e : Ex) (cs : List Cm) (ρ : Ev) : Bool → Fw
  | true => kWh2 p R XI e cs (svs p R XI cs ρ)
  | false => .nx ρ
noncomputable def kWh1 (p : Px) (R : RF) (XI : Nat → Option (List Str)) (e : Ex) (cs : List Cm) (r : Rs Bool) : Fw := r.bs fun k ρ => kWh3 p R XI e cs ρ k
@[simp] theorem sv_whl : sv p R XI (.whl e cs) ρ = whs p R XI e cs ρ := rfl
theorem whs_eq : whs p R XI e cs ρ = kWh1 p R XI e cs (tv p R e ρ) := by
  unfold whs
  rw [fWh_eq]
  unfold kWh1
  congr 1
@[simp] theorem kWh1_ok : kWh1 p R XI e cs (.ok k ρ) = kWh3 p R XI e cs ρ k := rfl
@[simp] theorem kWh3_t : kWh3 p R XI e cs ρ true = kWh2 p R XI e cs (svs p R XI cs ρ) := rfl
@[simp] theorem kWh3_f : kWh3 p R XI e cs ρ false = .nx ρ := rfl
@[simp] theorem kWh2_nx : kWh2 p R XI e cs (.nx ρ) = whs p R XI e cs ρ := rfl
@[simp] theorem kWh2_ct : kWh2 p R XI e cs (.ct ρ) = whs p R XI e cs ρ := rfl
@[simp] theorem kWh2_bk : kWh2 p R XI e cs (.bk ρ) = .nx ρ := rfl
@[simp] theorem kWh2_rt : kWh2 p R XI e cs (.rt t ρ) = .rt t ρ := rfl
@[simp] theorem kWh2_xc : kWh2 p R XI e cs (.xc c x ρ) = .xc c x ρ := rfl
def kU3 (j : Nat) (ρ : Ev) : Option T → Fw
  | some t => .nx (ρ.set j t)
  | none => .bad
@[simp] theorem kU3_some : kU3 j ρ (some t) = .nx (ρ.set j t) := rfl
noncomputable def kU2 (j : Nat) (ρ : Ev) (ti tv : T) : Option T → Bool → Fw
  | some t, false => kU3 j ρ (setF t ti tv)
  | _, _ => .bad
@[simp] theorem kU2_some : kU2 j ρ u v (some t) false = kU3 j ρ (setF t u v) := rfl
def unQ : Option T → Bool
  | some t => isUn t
  | none => true
@[simp] theorem unQ_some : unQ (some t) = isUn t := rfl
noncomputable def kU1 (j : Nat) (tv : T) (r : Rs T) : Fw := r.bs fun ti ρ => kU2 j ρ ti tv ρ[j]? (unQ ρ[j]?)
@[simp] theorem kU1_ok : kU1 j u (.ok t ρ) = kU2 j ρ t u ρ[j]? (unQ ρ[j]?) := rfl
@[simp] theorem kU1_ex : kU1 j u (.ex c x ρ) = .xc c x ρ := rfl
@[simp] theorem kU1_bad : kU1 j u .bad = .bad := rfl
noncomputable def kU (p : Px) (R : RF) (i : Ex) (j : Nat) (tv : T) (ρ : Ev) : Bool → Fw
  | false => kU1 j tv (ev p R i false ρ)
  | true => .bad
@[simp] theorem kU_f : kU p R a j t ρ false = kU1 j t (ev p R a false ρ) := rfl
def kU5 (p : Px) (o : Ex) (ρ : Ev) : Option T → Fw
  | some t => nxO (cput p o ρ t)
  | none => .bad
@[simp] theorem kU5_some : kU5 p a ρ (some t) = nxO (cput p a ρ t) := rfl
noncomputable def kU4 (p : Px) (o : Ex) (ρ : Ev) (tv : T) : Option T → Option T → Fw
  | some t, some ti => kU5 p o ρ (setF t ti tv)
  | _, _ => .bad
@[simp] theorem kU4_some : kU4 p a ρ v (some t) (some u) = kU5 p a ρ (setF t u v) := rfl
noncomputable def kUv (p : Px) (R : RF) (o i : Ex) (tv : T) (ρ : Ev) : Option Nat → Fw
  | some j => kU p R i j tv ρ (unQ ρ[j]?)
  | none => kU4 p o ρ tv (cq p o ρ) (cq p i ρ)
@[simp] theorem kUv_some : kUv p R a b t ρ (some j) = kU p R b j t ρ (unQ ρ[j]?) := rfl
@[simp] theorem kUv_none : kUv p R a b t ρ none = kU4 p a ρ t (cq p a ρ) (cq p b ρ) := rfl
noncomputable def kUw (p : Px) (R : RF) (o i : Ex) (r : Rs T) : Fw := r.bs fun t ρ => kUv p R o i t ρ (isVarE o)
@[simp] theorem kUw_ok : kUw p R a b (.ok t ρ) = kUv p R a b t ρ (isVarE a) := rfl
@[simp] theorem kUw_ex : kUw p R a b (.ex c x ρ) = .xc c x ρ := rfl
@[simp] theorem kUw_bad : kUw p R a b .bad = .bad := rfl
theorem setV_eq {j : Nat} {ti tv : T} : (match thereQ ρ[j]? with | true => setV j ρ ρ[j]? ti tv | false => .bad) = kU2 j ρ ti tv ρ[j]? (unQ ρ[j]?) := by
  cases ρ[j]? with
  | none => rfl
  | some t =>
    show (match !isUn t with | true => _ | false => _) = kU2 j ρ ti tv (some t) (isUn t)
    cases isUn t with
    | true => rfl
    | false =>
      show (match setF t ti tv with | some t' => _ | none => _) = kU3 j ρ (setF t ti tv)
      cases setF t ti tv <;> rfl
@[simp] theorem sv_sub : sv p R XI (.sub a b e) ρ = kUw p R a b (ev p R e false ρ) := by
  show Rs.bs (ev p R e false ρ) _ = _
  cases ev p R e false ρ with
  | ok t ρ1 =>
    show (match isVarE a with | some j => _ | none => _) = kUv p R a b t ρ1 (isVarE a)
    cases isVarE a with
    | some j =>
      show (match thereQ ρ1[j]? with | true => _ | false => _) = kU p R b j t ρ1 (unQ ρ1[j]?)
      have h : thereQ ρ1[j]? = !unQ ρ1[j]? := by cases ρ1[j]? <;> rfl
      rw [h]
      cases unQ ρ1[j]? with
      | true => rfl
      | false =>
        show Rs.bs (ev p R b false ρ1) _ = kU1 j t (ev p R b false ρ1)
        cases ev p R b false ρ1 with
        | ok ti ρ2 => exact setV_eq
        | ex c e ρ => rfl
        | bad => rfl
    | none =>
      show setQ p a ρ1 (cq p a ρ1) (cq p b ρ1) t = kU4 p a ρ1 t (cq p a ρ1) (cq p b ρ1)
      cases cq p a ρ1 with
      | none => rfl
      | some y =>
        cases cq p b ρ1 with
        | none => rfl
        | some z =>
          show (match setF y z t with | some t' => _ | none => _) = kU5 p a ρ1 (setF y z t)
          cases setF y z t <;> rfl
  | ex c e ρ => rfl
  | bad => rfl
noncomputable def kFl1 (p : Px) (o : Ex) (f : Str) (ρ : Ev) (tv : T) : Option T → Fw
  | some t => kU5 p o ρ (setFF p f tv t)
  | none => .bad
@[simp] theorem kFl1_some : kFl1 p a s ρ u (some t) = kU5 p a ρ (setFF p s u t) := rfl
noncomputable def kFl (p : Px) (o : Ex) (f : Str) (r : Rs T) : Fw := r.bs fun tv ρ => kFl1 p o f ρ tv (cq p o ρ)
@[simp] theorem kFl_ok : kFl p a s (.ok t ρ) = kFl1 p a s ρ t (cq p a ρ) := rfl
@[simp] theorem kFl_ex : kFl p a s (.ex c x ρ) = .xc c x ρ := rfl
@[simp] theorem kFl_bad : kFl p a s .bad = .bad := rfl
@[simp] theorem sv_fld : sv p R XI (.fld a s e) ρ = kFl p a s (ev p R e false ρ) := by
  show Rs.bs (ev p R e false ρ) _ = _
  cases ev p R e false ρ with
  | ok t ρ1 =>
    show fldQ p a s ρ1 (cq p a ρ1) t = kFl1 p a s ρ1 t (cq p a ρ1)
    cases cq p a ρ1 with
    | none => rfl
    | some y =>
      show (match setFF p s t y with | some t' => _ | none => _) = kU5 p a ρ1 (setFF p s t y)
      cases setFF p s t y <;> rfl
  | ex c e ρ => rfl
  | bad => rfl
noncomputable def kAu (op : Operator) (i : Nat) (tx : T) (r : Rs T) : Fw := r.bs fun t ρ => kU3 i ρ (augF op tx t)
@[simp] theorem kAu_ok : kAu op i u (.ok t ρ) = kU3 i ρ (augF op u t) := rfl
@[simp] theorem kAu_ex : kAu op i u (.ex c x ρ) = .xc c x ρ := rfl
@[simp] theorem kAu_bad : kAu op i u .bad = .bad := rfl
noncomputable def kAug (p : Px) (R : RF) (op : Operator) (i : Nat) (e : Ex) (ρ : Ev) : Option T → Fw
  | some tx => kAu op i tx (ev p R e false ρ)
  | none => .bad
@[simp] theorem kAug_some : kAug p R op i e ρ (some t) = kAu op i t (ev p R e false ρ) := rfl
def augW (t : T) : Bool → Option T
  | false => some t
  | true => none
@[simp] theorem augW_f : augW t false = some t := rfl
@[simp] theorem augQ_some : augQ (some t) = augW t (isUn t || ow t) := by
  show (if isUn t = false ∧ ow t = false then some t else none) = _
  cases isUn t <;> cases ow t <;> rfl
@[simp] theorem sv_aug : sv p R XI (.aug i op e) ρ = kAug p R op i e ρ (augQ ρ[i]?) := by
  show (match augQ ρ[i]? with | some tx => _ | none => _) = _
  cases augQ ρ[i]? with
  | none => rfl
  | some tx =>
    show Rs.bs (ev p R e false ρ) _ = Rs.bs (ev p R e false ρ) _
    cases ev p R e false ρ with
    | ok t ρ1 =>
      show (match augF op tx t with | some r => _ | none => _) = kU3 i ρ1 (augF op tx t)
      cases augF op tx t <;> rfl
    | ex c e ρ => rfl
    | bad => rfl
/-! loops -/
noncomputable def fvs (p : Px) (R : RF) (XI : Nat → Option (List Str)) (g : Tg) (b : List Cm) (its : List T) (ρ : Ev) : Fw := fFor g (svs p R XI b) its ρ
noncomputable def kTn (p : Px) (R : RF) (XI : Nat → Option (List Str)) (g : Tg) (b : List Cm) (its : List T) (o : Fw) : Fw := o.tn fun ρ => fvs p R XI g b its ρ
noncomputable def kTb (p : Px) (R : RF) (XI : Nat → Option (List Str)) (g : Tg) (b : List Cm) (its : List T) : Option Ev → Fw
  | some ρ => kTn p R XI g b its (svs p R XI b ρ)
  | none => .bad
theorem fvs_nil : fvs p R XI g cs [] ρ = .nx ρ := rfl
theorem fvs_cons : fvs p R XI g cs (t :: ts) ρ = kTb p R XI g cs ts (bindF g t ρ) := by
  show (match bindF g t ρ with | some ρ1 => _ | none => _) = _
  cases bindF g t ρ <;> rfl
@[simp] theorem kTb_some : kTb p R XI g cs ts (some ρ) = kTn p R XI g cs ts (svs p R XI cs ρ) := rfl
@[simp] theorem kTn_nx : kTn p R XI g cs ts (.nx ρ) = fvs p R XI g cs ts ρ := rfl
@[simp] theorem kTn_ct : kTn p R XI g cs ts (.ct ρ) = fvs p R XI g cs ts ρ := rfl
@[simp] theorem kTn_bk : kTn p R XI g cs ts (.bk ρ) = .nx ρ := rfl
@[simp] theorem kTn_rt : kTn p R XI g cs ts (.rt t ρ) = .rt t ρ := rfl
@[simp] theorem kTn_xc : kTn p R XI g cs ts (.xc c x ρ) = .xc c x ρ := rfl
def kWr (as : List Ag) (ts us : List T) (dv : Bool) (o : Fw) : Fw := wrapF as ts us dv o
@[simp] theorem kWr_nx {gs : List Ag} : kWr gs ts us k (.nx ρ) = .nx (back gs ts us ρ) := rfl
@[simp] theorem kWr_rt {gs : List Ag} : kWr gs ts us k (.rt t ρ) = .rt t (back gs ts us ρ) := rfl
@[simp] theorem kWr_xc {gs : List Ag} : kWr gs ts us false (.xc c x ρ) = .xc c x (back gs ts us ρ) := rfl
noncomputable def kFr3 (p : Px) (R : RF) (XI : Nat → Option (List Str)) (g : Tg) (dv : Bool) (b : List Cm) (as : List Ag) : Option (List T × List T × List T × Ev) → Fw
  | some (its, ts, us, ρ) => kWr as ts us dv (fvs p R XI g b its ρ)
  | none => .bad
@[simp] theorem kFr3_some {its : List T} {gs : List Ag} : kFr3 p R XI g k cs gs (some (its, ts, us, ρ)) = kWr gs ts us k (fvs p R XI g cs its ρ) := rfl
noncomputable def kFr2 (p : Px) (R : RF) (XI : Nat → Option (List Str)) (g : Tg) (q : Sk) (dv : Bool) (b : List Cm) (r : Rs (List Ag)) : Fw := r.bs fun as ρ => kFr3 p R XI g dv b as (frSrc q (tgSl g ++ asgSs b) as dv (lend as ρ))
@[simp] theorem kFr2_ok {q : Sk} {gs : List Ag} : kFr2 p R XI g q k cs (.ok gs ρ) = kFr3 p R XI g k cs gs (frSrc q (tgSl g ++ asgSs cs) gs k (lend gs ρ)) := rfl
@[simp] theorem kFr2_ex {q : Sk} {gs : List Ag} : kFr2 p R XI g q k cs (.ex c x ρ) = .xc c x ρ := rfl
@[simp] theorem kFr2_bad {q : Sk} {gs : List Ag} : kFr2 p R XI g q k cs .bad = .bad := rfl
noncomputable def kFr0 (p : Px) (R : RF) (XI : Nat → Option (List Str)) (g : Tg) (q : Sk) (ss : List Ex) (b : List Cm) (ρ : Ev) : Fw := kFr2 p R XI g q (dvar q ss ρ) b (avs p R ss ρ)
@[simp] theorem kFr0_eq {q : Sk} : kFr0 p R XI g q es cs (t :: ρ) = kFr2 p R XI g q (dvar q es (t :: ρ)) cs (avs p R es (t :: ρ)) := rfl
noncomputable def kFr1 (p : Px) (R : RF) (XI : Nat → Option (List Str)) (g : Tg) (q : Sk) (ss : List Ex) (b : List Cm) (ρ : Ev) : Bool → Fw
  | true => kFr0 p R XI g q ss b (pre (fun j => menCs j b) ss ρ)
  | false => .bad
@[simp] theorem kFr1_t {q : Sk} : kFr1 p R XI g q es cs ρ true = kFr0 p R XI g q es cs (pre (fun j => menCs j cs) es ρ) := rfl
@[simp] theorem sv_fr {q : Sk} : sv p R XI (.fr g q es cs) ρ = kFr1 p R XI g q es cs ρ (okSk q es) := by
  show (match okSk q es with | true => _ | false => _) = _
  cases okSk q es with
  | false => rfl
  | true =>
    show (fun ρ => _) (pre (fun j => menCs j cs) es ρ) = kFr0 p R XI g q es cs (pre (fun j => menCs j cs) es ρ)
    generalize pre (fun j => menCs j cs) es ρ = ρ
    show Rs.bs (fAs p R es ρ) _ = Rs.bs (fAs p R es ρ) _
    cases fAs p R es ρ with
    | ok as ρ1 =>
      show (match frSrc q (tgSl g ++ asgSs cs) as (dvar q es ρ) (lend as ρ1) with | some (its, ts, us, ρ2) => _ | none => _) = kFr3 p R XI g (dvar q es ρ) cs as (frSrc q (tgSl g ++ asgSs cs) as (dvar q es ρ) (lend as ρ1))
      cases frSrc q (tgSl g ++ asgSs cs) as (dvar q es ρ) (lend as ρ1) <;> rfl
    | ex c e ρ => rfl
    | bad => rfl
@[simp] theorem frSrc_some {q : Sk} {sl : List Nat} {gs : List Ag} : frSrc q sl gs k (some (ts, ρ)) = gd (keepA sl gs ts = true) (itQ q ts ρ k (itemsT q ts)) := rfl
/-! raise, try -/
noncomputable def kRs2 (s : Str) (fs : List Str) (r : Rs (List T)) : Fw := r.bs fun ts ρ => .xc s (xdOf fs.reverse (fzs ts.reverse)) ρ
@[simp] theorem kRs2_ok {fs : List Str} : kRs2 s fs (.ok ts ρ) = .xc s (xdOf fs.reverse (fzs ts.reverse)) ρ := rfl
@[simp] theorem kRs2_ex {fs : List Str} : kRs2 s fs (.ex c x ρ) = .xc c x ρ := rfl
@[simp] theorem kRs2_bad {fs : List Str} : kRs2 s fs .bad = .bad := rfl
noncomputable def kRs1 (p : Px) (R : RF) (s : Str) (fs : List Str) (es : List Ex) (ρ : Ev) : Bool → Fw
  | true => kRs2 s fs (evs p R es false ρ)
  | false => .bad
@[simp] theorem kRs1_t {fs : List Str} : kRs1 p R s fs es ρ true = kRs2 s fs (evs p R es false ρ) := rfl
noncomputable def kRs (p : Px) (R : RF) (s : Str) (es : List Ex) (ρ : Ev) : Option (List Str) → Fw
  | some fs => kRs1 p R s fs es ρ (raiseOk p s fs es.length)
  | none => .bad
@[simp] theorem kRs_some {fs : List Str} : kRs p R s es ρ (some fs) = kRs1 p R s fs es ρ (raiseOk p s fs es.length) := rfl
@[simp] theorem sv_raise : sv p R XI (.raise s i es) ρ = kRs p R s es ρ (XI i) := by
  show (match XI i with | some fs => _ | none => _) = _
  cases XI i with
  | none => rfl
  | some fs =>
    show (match raiseOk p s fs es.length with | true => _ | false => _) = kRs1 p R s fs es ρ (raiseOk p s fs es.length)
    cases raiseOk p s fs es.length <;> rfl
noncomputable def kTr4 (w : Str) (i : Nat) (ρ : Ev) : Option T → Fw
  | some u => .rt (.nd .lst true [.s w, u]) (ρ.set i .un)
  | none => .bad
@[simp] theorem kTr4_some : kTr4 s i ρ (some t) = .rt (.nd .lst true [.s s, t]) (ρ.set i .un) := rfl
noncomputable def kTr3 (w : Str) (i : Nat) (ρ : Ev) : Option T → Fw
  | some u => kTr4 w i ρ (gd (i < ρ.length) (some u))
  | none => .bad
@[simp] theorem kTr3_some : kTr3 s i ρ (some t) = kTr4 s i ρ (gd (i < ρ.length) (some t)) := rfl
noncomputable def kTr2 (i : Nat) (w f : Str) (c : Str) (t : T) (ρ : Ev) : Bool → Bool → Fw
  | true, true => kTr3 w i ρ (xdAt f t)
  | true, false => .xc c t ρ
  | false, _ => .bad
@[simp] theorem kTr2_tt {w f : Str} : kTr2 i w f c t ρ true true = kTr3 w i ρ (xdAt f t) := rfl
@[simp] theorem kTr2_tf {w f : Str} : kTr2 i w f c t ρ true false = .xc c t ρ := rfl
noncomputable def kTr (p : Px) (x : Str) (i : Nat) (w f : Str) : Fw → Fw
  | .xc c t ρ => kTr2 i w f c t ρ (p.exs.contains c) (c == x)
  | o => o
@[simp] theorem kTr_nx {w f : Str} : kTr p s i w f (.nx ρ) = .nx ρ := rfl
@[simp] theorem kTr_rt {w f : Str} : kTr p s i w f (.rt t ρ) = .rt t ρ := rfl
@[simp] theorem kTr_xc {w f : Str} : kTr p s i w f (.xc c t ρ) = kTr2 i w f c t ρ (p.exs.contains c) (c == s) := rfl
noncomputable def kTry (p : Px) (R : RF) (XI : Nat → Option (List Str)) (b : List Cm) (x : Str) (i : Nat) (w f : Str) (ρ : Ev) : Bool → Fw
  | true => kTr p x i w f (svs p R XI b ρ)
  | false => .bad
@[simp] theorem kTry_t {w f : Str} : kTry p R XI cs s i w f ρ true = kTr p s i w f (svs p R XI cs ρ) := rfl
@[simp] theorem sv_try {w f : Str} : sv p R XI (.tryAs cs s i w f) ρ = kTry p R XI cs s i w f ρ (p.exs.contains s) := by
  show (match p.exs.contains s with | true => _ | false => _) = _
  cases p.exs.contains s with
  | false => rfl
  | true =>
    show tryF p s i w f (svs p R XI cs ρ) = kTr p s i w f (svs p R XI cs ρ)
    cases svs p R XI cs ρ with
    | xc c t ρ1 =>
      show (match p.exs.contains c with | true => _ | false => _) = kTr2 i w f c t ρ1 (p.exs.contains c) (c == s)
      cases p.exs.contains c with
      | false => rfl
      | true =>
        show (match c == s with | true => _ | false => _) = kTr2 i w f c t ρ1 true (c == s)
        cases c == s with
        | false => rfl
        | true =>
          show (match xdAt f t with | some u => _ | none => _) = kTr3 w i ρ1 (xdAt f t)
          cases xdAt f t with
          | none => rfl
          | some u =>
            show (match gd (i < ρ1.length) (some u) with | some u => _ | none => _) = kTr4 w i ρ1 (gd (i < ρ1.length) (some u))
            cases gd (i < ρ1.length) (some u) <;> rfl
    | nx ρ => rfl
    | rt t ρ => rfl
    | bk ρ => rfl
    | ct ρ => rfl
    | bad => rfl
/-! calls -/
def kOut (np : Nat) (al : List Nat) (o : Fw) : Rc := outK np al o
def outG (al : List Nat) : Nat → Nat → Ev → List T
  | _, 0, _ => []
  | k, n + 1, t :: ρ => (if al.contains k = true then .un else t) :: outG al (k + 1) n ρ
  | k, n + 1, [] => .un :: outG al (k + 1) n []
theorem outG_eq {al : List Nat} : ∀ (np k : Nat) (ρ : Ev), outG al k np ρ = (List.range np).map fun q => if al.contains (k + q) = true then .un else ρ.getD q .un
  | 0, k, ρ => by cases ρ <;> rfl
  | np + 1, k, [] => by
    rw [List.range_succ_eq_map, List.map_cons, List.map_map]
    show T.un :: outG al (k + 1) np [] = _
    rw [outG_eq np (k + 1) []]
    congr 1
    · simp
    · refine List.map_congr_left fun q _ => ?_
      simp [Nat.add_assoc, Nat.add_comm 1 q]
  | np + 1, k, t :: ρ => by
    rw [List.range_succ_eq_map, List.map_cons, List.map_map]
    show (if al.contains k = true then T.un else t) :: outG al (k + 1) np ρ = _
    rw [outG_eq np (k + 1) ρ]
    congr 1
    refine List.map_congr_left fun q _ => ?_
    simp [Nat.add_assoc, Nat.add_comm 1 q]
theorem outsL_eq {al : List Nat} {np : Nat} : outsL np al ρ = outG al 0 np ρ := by
  rw [outG_eq]
  unfold outsL
  simp
@[simp] theorem kOut_nx {np : Nat} {al : List Nat} : kOut np al (.nx ρ) = .ok .n (outG al 0 np ρ) := by rw [← outsL_eq]; rfl
@[simp] theorem kOut_rt {np : Nat} {al : List Nat} : kOut np al (.rt t ρ) = .ok t (outG al 0 np ρ) := by rw [← outsL_eq]; rfl
@[simp] theorem kOut_xc {np : Nat} {al : List Nat} : kOut np al (.xc c x ρ) = .ex c x := rfl
@[simp] theorem outG_z {al : List Nat} : outG al i 0 ρ = [] := by cases ρ <;> rfl
@[simp] theorem outG_s {al : List Nat} {np : Nat} : outG al i (np + 1) (t :: ρ) = (if al.contains i = true then .un else t) :: outG al (i + 1) np ρ := rfl
end
/-- a call: the def's body -/
theorem run_at {p : Px} {Tb : List Fd} {n i : Nat} {N : List Str} {np : Nat} {b : List Cm} {ts : List T} (al : List Nat) (h : Tb[i]? = some ⟨N, np, b⟩) (hn : 1 ≤ n) (hl : ts.length = np) (ha : asgSs b = al) :
    run p Tb n i ts = kOut np al (svs p (run p Tb (n - 1)) (XIat Tb (n - 1)) b (ts ++ List.replicate (N.length - np) .un)) := by
  obtain ⟨m, rfl⟩ : ∃ m, n = m + 1 := ⟨n - 1, by omega⟩
  subst ha
  show (match Tb[i]? with | some t => _ | none => _) = _
  rw [h]
  show (match decide (ts.length = np) with | true => _ | false => _) = _
  rw [decide_eq_true hl]
  rfl
theorem xi_at {Tb : List Fd} {n i : Nat} {t : Fd} {fs : List Str} (h : Tb[i]? = some t) (hn : 1 ≤ n) (hx : xiOf t = some fs) : XIat Tb n i = some fs := by
  obtain ⟨m, rfl⟩ : ∃ m, n = m + 1 := ⟨n - 1, by omega⟩
  show (Tb[i]?).bind xiOf = some fs
  rw [h]
  exact hx
end PL
set_option Elab.async false
set_option linter.all false
set_option maxRecDepth 100000
set_option maxHeartbeats 4000000
/-! Data, by simp. -/
namespace PL
open PySem PySem.Spec PyProof.Rows L2
section
variable {α : Type} {p : Px} {ρ ρ1 : Ev} {t u v t1 t2 t3 t4 t5 : T} {ts us : List T} {o o2 k : Bool} {i j : Int} {n l : Nat} {x y : Str} {ks : List Key} {c : Prop} {z : Option α} {C f : Str} {fs : List Str} {sl : List Nat} {gs : List Ag} {g : Tg} {gg : List Tg} {ns : List Int} {a b d : Ex} {es : List Ex}
@[simp] theorem gd_T : gd True z = z := gd_t trivial
@[simp] theorem gd_d (h : c) : gd c z = z := gd_t h
theorem cmulw {i j : Int} (h1 : -1000000000000000000000000000000 < i ∧ i < 1000000000000000000000000000000) (h2 : -1000000000000000000000000000000 < j ∧ j < 1000000000000000000000000000000) : CMulW i j := by
  have gen : ∀ x : Nat, x < 2 ^ 200 → x.log2 < 200 := fun x h => by
    by_cases e : x = 0
    · subst e; decide
    · exact (Nat.log2_lt e).mpr h
  have h3 := gen i.natAbs (by omega)
  have h4 := gen j.natAbs (by omega)
  unfold CMulW
  omega
@[simp] theorem gd_mul {i j : Int} (h1 : -1000000000000000000000000000000 < i ∧ i < 1000000000000000000000000000000) (h2 : -1000000000000000000000000000000 < j ∧ j < 1000000000000000000000000000000) : gd (CMulW i j) z = z := gd_t (cmulw h1 h2)
@[simp] theorem fd_eq (h : 0 ≤ j) : fd i j = i / j := Int.fdiv_eq_ediv_of_nonneg _ h
@[simp] theorem fm_eq (h : 0 ≤ j) : fm i j = i % j := Int.fmod_eq_emod_of_nonneg _ h
@[simp high] theorem z_get0 {a0 : T} {r : List T} : (a0 :: r)[0]? = some a0 := rfl
@[simp high] theorem z_get1 {a0 a1 : T} {r : List T} : (a0 :: a1 :: r)[1]? = some a1 := rfl
@[simp high] theorem z_get2 {a0 a1 a2 : T} {r : List T} : (a0 :: a1 :: a2 :: r)[2]? = some a2 := rfl
@[simp high] theorem z_get3 {a0 a1 a2 a3 : T} {r : List T} : (a0 :: a1 :: a2 :: a3 :: r)[3]? = some a3 := rfl
@[simp high] theorem z_get4 {a0 a1 a2 a3 a4 : T} {r : List T} : (a0 :: a1 :: a2 :: a3 :: a4 :: r)[4]? = some a4 := rfl
@[simp high] theorem z_get5 {a0 a1 a2 a3 a4 a5 : T} {r : List T} : (a0 :: a1 :: a2 :: a3 :: a4 :: a5 :: r)[5]? = some a5 := rfl
@[simp high] theorem z_get6 {a0 a1 a2 a3 a4 a5 a6 : T} {r : List T} : (a0 :: a1 :: a2 :: a3 :: a4 :: a5 :: a6 :: r)[6]? = some a6 := rfl
@[simp high] theorem z_get7 {a0 a1 a2 a3 a4 a5 a6 a7 : T} {r : List T} : (a0 :: a1 :: a2 :: a3 :: a4 :: a5 :: a6 :: a7 :: r)[7]? = some a7 := rfl
@[simp high] theorem z_get8 {a0 a1 a2 a3 a4 a5 a6 a7 a8 : T} {r : List T} : (a0 :: a1 :: a2 :: a3 :: a4 :: a5 :: a6 :: a7 :: a8 :: r)[8]? = some a8 := rfl
@[simp high] theorem z_get9 {a0 a1 a2 a3 a4 a5 a6 a7 a8 a9 : T} {r : List T} : (a0 :: a1 :: a2 :: a3 :: a4 :: a5 :: a6 :: a7 :: a8 :: a9 :: r)[9]? = some a9 := rfl
@[simp high] theorem z_get10 {a0 a1 a2 a3 a4 a5 a6 a7 a8 a9 a10 : T} {r : List T} : (a0 :: a1 :: a2 :: a3 :: a4 :: a5 :: a6 :: a7 :: a8 :: a9 :: a10 :: r)[10]? = some a10 := rfl
@[simp high] theorem z_get11 {a0 a1 a2 a3 a4 a5 a6 a7 a8 a9 a10 a11 : T} {r : List T} : (a0 :: a1 :: a2 :: a3 :: a4 :: a5 :: a6 :: a7 :: a8 :: a9 :: a10 :: a11 :: r)[11]? = some a11 := rfl
@[simp high] theorem z_get12 {a0 a1 a2 a3 a4 a5 a6 a7 a8 a9 a10 a11 a12 : T} {r : List T} : (a0 :: a1 :: a2 :: a3 :: a4 :: a5 :: a6 :: a7 :: a8 :: a9 :: a10 :: a11 :: a12 :: r)[12]? = some a12 := rfl
@[simp high] theorem z_get13 {a0 a1 a2 a3 a4 a5 a6 a7 a8 a9 a10 a11 a12 a13 : T} {r : List T} : (a0 :: a1 :: a2 :: a3 :: a4 :: a5 :: a6 :: a7 :: a8 :: a9 :: a10 :: a11 :: a12 :: a13 :: r)[13]? = some a13 := rfl
@[simp high] theorem z_get14 {a0 a1 a2 a3 a4 a5 a6 a7 a8 a9 a10 a11 a12 a13 a14 : T} {r : List T} : (a0 :: a1 :: a2 :: a3 :: a4 :: a5 :: a6 :: a7 :: a8 :: a9 :: a10 :: a11 :: a12 :: a13 :: a14 :: r)[14]? = some a14 := rfl
@[simp high] theorem z_get15 {a0 a1 a2 a3 a4 a5 a6 a7 a8 a9 a10 a11 a12 a13 a14 a15 : T} {r : List T} : (a0 :: a1 :: a2 :: a3 :: a4 :: a5 :: a6 :: a7 :: a8 :: a9 :: a10 :: a11 :: a12 :: a13 :: a14 :: a15 :: r)[15]? = some a15 := rfl
@[simp high] theorem z_get16 {a0 a1 a2 a3 a4 a5 a6 a7 a8 a9 a10 a11 a12 a13 a14 a15 a16 : T} {r : List T} : (a0 :: a1 :: a2 :: a3 :: a4 :: a5 :: a6 :: a7 :: a8 :: a9 :: a10 :: a11 :: a12 :: a13 :: a14 :: a15 :: a16 :: r)[16]? = some a16 := rfl
@[simp high] theorem z_get17 {a0 a1 a2 a3 a4 a5 a6 a7 a8 a9 a10 a11 a12 a13 a14 a15 a16 a17 : T} {r : List T} : (a0 :: a1 :: a2 :: a3 :: a4 :: a5 :: a6 :: a7 :: a8 :: a9 :: a10 :: a11 :: a12 :: a13 :: a14 :: a15 :: a16 :: a17 :: r)[17]? = some a17 := rfl
@[simp high] theorem z_get18 {a0 a1 a2 a3 a4 a5 a6 a7 a8 a9 a10 a11 a12 a13 a14 a15 a16 a17 a18 : T} {r : List T} : (a0 :: a1 :: a2 :: a3 :: a4 :: a5 :: a6 :: a7 :: a8 :: a9 :: a10 :: a11 :: a12 :: a13 :: a14 :: a15 :: a16 :: a17 :: a18 :: r)[18]? = some a18 := rfl
@[simp high] theorem z_get19 {a0 a1 a2 a3 a4 a5 a6 a7 a8 a9 a10 a11 a12 a13 a14 a15 a16 a17 a18 a19 : T} {r : List T} : (a0 :: a1 :: a2 :: a3 :: a4 :: a5 :: a6 :: a7 :: a8 :: a9 :: a10 :: a11 :: a12 :: a13 :: a14 :: a15 :: a16 :: a17 :: a18 :: a19 :: r)[19]? = some a19 := rfl
@[simp high] theorem z_get20 {a0 a1 a2 a3 a4 a5 a6 a7 a8 a9 a10 a11 a12 a13 a14 a15 a16 a17 a18 a19 a20 : T} {r : List T} : (a0 :: a1 :: a2 :: a3 :: a4 :: a5 :: a6 :: a7 :: a8 :: a9 :: a10 :: a11 :: a12 :: a13 :: a14 :: a15 :: a16 :: a17 :: a18 :: a19 :: a20 :: r)[20]? = some a20 := rfl
@[simp high] theorem z_get21 {a0 a1 a2 a3 a4 a5 a6 a7 a8 a9 a10 a11 a12 a13 a14 a15 a16 a17 a18 a19 a20 a21 : T} {r : List T} : (a0 :: a1 :: a2 :: a3 :: a4 :: a5 :: a6 :: a7 :: a8 :: a9 :: a10 :: a11 :: a12 :: a13 :: a14 :: a15 :: a16 :: a17 :: a18 :: a19 :: a20 :: a21 :: r)[21]? = some a21 := rfl
@[simp high] theorem z_get22 {a0 a1 a2 a3 a4 a5 a6 a7 a8 a9 a10 a11 a12 a13 a14 a15 a16 a17 a18 a19 a20 a21 a22 : T} {r : List T} : (a0 :: a1 :: a2 :: a3 :: a4 :: a5 :: a6 :: a7 :: a8 :: a9 :: a10 :: a11 :: a12 :: a13 :: a14 :: a15 :: a16 :: a17 :: a18 :: a19 :: a20 :: a21 :: a22 :: r)[22]? = some a22 := rfl
@[simp high] theorem z_get23 {a0 a1 a2 a3 a4 a5 a6 a7 a8 a9 a10 a11 a12 a13 a14 a15 a16 a17 a18 a19 a20 a21 a22 a23 : T} {r : List T} : (a0 :: a1 :: a2 :: a3 :: a4 :: a5 :: a6 :: a7 :: a8 :: a9 :: a10 :: a11 :: a12 :: a13 :: a14 :: a15 :: a16 :: a17 :: a18 :: a19 :: a20 :: a21 :: a22 :: a23 :: r)[23]? = some a23 := rfl
@[simp high] theorem z_get24 {a0 a1 a2 a3 a4 a5 a6 a7 a8 a9 a10 a11 a12 a13 a14 a15 a16 a17 a18 a19 a20 a21 a22 a23 a24 : T} {r : List T} : (a0 :: a1 :: a2 :: a3 :: a4 :: a5 :: a6 :: a7 :: a8 :: a9 :: a10 :: a11 :: a12 :: a13 :: a14 :: a15 :: a16 :: a17 :: a18 :: a19 :: a20 :: a21 :: a22 :: a23 :: a24 :: r)[24]? = some a24 := rfl
@[simp high] theorem z_get25 {a0 a1 a2 a3 a4 a5 a6 a7 a8 a9 a10 a11 a12 a13 a14 a15 a16 a17 a18 a19 a20 a21 a22 a23 a24 a25 : T} {r : List T} : (a0 :: a1 :: a2 :: a3 :: a4 :: a5 :: a6 :: a7 :: a8 :: a9 :: a10 :: a11 :: a12 :: a13 :: a14 :: a15 :: a16 :: a17 :: a18 :: a19 :: a20 :: a21 :: a22 :: a23 :: a24 :: a25 :: r)[25]? = some a25 := rfl
@[simp high] theorem z_put0 {a0 : T} {r : List T} : (a0 :: r).set 0 t = t :: r := rfl
@[simp high] theorem z_put1 {a0 a1 : T} {r : List T} : (a0 :: a1 :: r).set 1 t = a0 :: t :: r := rfl
@[simp high] theorem z_put2 {a0 a1 a2 : T} {r : List T} : (a0 :: a1 :: a2 :: r).set 2 t = a0 :: a1 :: t :: r := rfl
@[simp high] theorem z_put3 {a0 a1 a2 a3 : T} {r : List T} : (a0 :: a1 :: a2 :: a3 :: r).set 3 t = a0 :: a1 :: a2 :: t :: r := rfl
@[simp high] theorem z_put4 {a0 a1 a2 a3 a4 : T} {r : List T} : (a0 :: a1 :: a2 :: a3 :: a4 :: r).set 4 t = a0 :: a1 :: a2 :: a3 :: t :: r := rfl
@[simp high] theorem z_put5 {a0 a1 a2 a3 a4 a5 : T} {r : List T} : (a0 :: a1 :: a2 :: a3 :: a4 :: a5 :: r).set 5 t = a0 :: a1 :: a2 :: a3 :: a4 :: t :: r := rfl
@[simp high] theorem z_put6 {a0 a1 a2 a3 a4 a5 a6 : T} {r : List T} : (a0 :: a1 :: a2 :: a3 :: a4 :: a5 :: a6 :: r).set 6 t = a0 :: a1 :: a2 :: a3 :: a4 :: a5 :: t :: r := rfl
@[simp high] theorem z_put7 {a0 a1 a2 a3 a4 a5 a6 a7 : T} {r : List T} : (a0 :: a1 :: a2 :: a3 :: a4 :: a5 :: a6 :: a7 :: r).set 7 t = a0 :: a1 :: a2 :: a3 :: a4 :: a5 :: a6 :: t :: r := rfl
@[simp high] theorem z_put8 {a0 a1 a2 a3 a4 a5 a6 a7 a8 : T} {r : List T} : (a0 :: a1 :: a2 :: a3 :: a4 :: a5 :: a6 :: a7 :: a8 :: r).set 8 t = a0 :: a1 :: a2 :: a3 :: a4 :: a5 :: a6 :: a7 :: t :: r := rfl
@[simp high] theorem z_put9 {a0 a1 a2 a3 a4 a5 a6 a7 a8 a9 : T} {r : List T} : (a0 :: a1 :: a2 :: a3 :: a4 :: a5 :: a6 :: a7 :: a8 :: a9 :: r).set 9 t = a0 :: a1 :: a2 :: a3 :: a4 :: a5 :: a6 :: a7 :: a8 :: t :: r := rfl
@[simp high] theorem z_put10 {a0 a1 a2 a3 a4 a5 a6 a7 a8 a9 a10 : T} {r : List T} : (a0 :: a1 :: a2 :: a3 :: a4 :: a5 :: a6 :: a7 :: a8 :: a9 :: a10 :: r).set 10 t = a0 :: a1 :: a2 :: a3 :: a4 :: a5 :: a6 :: a7 :: a8 :: a9 :: t :: r := rfl
@[simp high] theorem z_put11 {a0 a1 a2 a3 a4 a5 a6 a7 a8 a9 a10 a11 : T} {r : List T} : (a0 :: a1 :: a2 :: a3 :: a4 :: a5 :: a6 :: a7 :: a8 :: a9 :: a10 :: a11 :: r).set 11 t = a0 :: a1 :: a2 :: a3 :: a4 :: a5 :: a6 :: a7 :: a8 :: a9 :: a10 :: t :: r := rfl
@[simp high] theorem z_put12 {a0 a1 a2 a3 a4 a5 a6 a7 a8 a9 a10 a11 a12 : T} {r : List T} : (a0 :: a1 :: a2 :: a3 :: a4 :: a5 :: a6 :: a7 :: a8 :: a9 :: a10 :: a11 :: a12 :: r).set 12 t = a0 :: a1 :: a2 :: a3 :: a4 :: a5 :: a6 :: a7 :: a8 :: a9 :: a10 :: a11 :: t :: r := rfl
@[simp high] theorem z_put13 {a0 a1 a2 a3 a4 a5 a6 a7 a8 a9 a10 a11 a12 a13 : T} {r : List T} : (a0 :: a1 :: a2 :: a3 :: a4 :: a5 :: a6 :: a7 :: a8 :: a9 :: a10 :: a11 :: a12 :: a13 :: r).set 13 t = a0 :: a1 :: a2 :: a3 :: a4 :: a5 :: a6 :: a7 :: a8 :: a9 :: a10 :: a11 :: a12 :: t :: r := rfl
@[simp high] theorem z_put14 {a0 a1 a2 a3 a4 a5 a6 a7 a8 a9 a10 a11 a12 a13 a14 : T} {r : List T} : (a0 :: a1 :: a2 :: a3 :: a4 :: a5 :: a6 :: a7 :: a8 :: a9 :: a10 :: a11 :: a12 :: a13 :: a14 :: r).set 14 t = a0 :: a1 :: a2 :: a3 :: a4 :: a5 :: a6 :: a7 :: a8 :: a9 :: a10 :: a11 :: a12 :: a13 :: t :: r := rfl
@[simp high] theorem z_put15 {a0 a1 a2 a3 a4 a5 a6 a7 a8 a9 a10 a11 a12 a13 a14 a15 : T} {r : List T} : (a0 :: a1 :: a2 :: a3 :: a4 :: a5 :: a6 :: a7 :: a8 :: a9 :: a10 :: a11 :: a12 :: a13 :: a14 :: a15 :: r).set 15 t = a0 :: a1 :: a2 :: a3 :: a4 :: a5 :: a6 :: a7 :: a8 :: a9 :: a10 :: a11 :: a12 :: a13 :: a14 :: t :: r := rfl
@[simp high] theorem z_put16 {a0 a1 a2 a3 a4 a5 a6 a7 a8 a9 a10 a11 a12 a13 a14 a15 a16 : T} {r : List T} : (a0 :: a1 :: a2 :: a3 :: a4 :: a5 :: a6 :: a7 :: a8 :: a9 :: a10 :: a11 :: a12 :: a13 :: a14 :: a15 :: a16 :: r).set 16 t = a0 :: a1 :: a2 :: a3 :: a4 :: a5 :: a6 :: a7 :: a8 :: a9 :: a10 :: a11 :: a12 :: a13 :: a14 :: a15 :: t :: r := rfl
@[simp high] theorem z_put17 {a0 a1 a2 a3 a4 a5 a6 a7 a8 a9 a10 a11 a12 a13 a14 a15 a16 a17 : T} {r : List T} : (a0 :: a1 :: a2 :: a3 :: a4 :: a5 :: a6 :: a7 :: a8 :: a9 :: a10 :: a11 :: a12 :: a13 :: a14 :: a15 :: a16 :: a17 :: r).set 17 t = a0 :: a1 :: a2 :: a3 :: a4 :: a5 :: a6 :: a7 :: a8 :: a9 :: a10 :: a11 :: a12 :: a13 :: a14 :: a15 :: a16 :: t :: r := rfl
@[simp high] theorem z_put18 {a0 a1 a2 a3 a4 a5 a6 a7 a8 a9 a10 a11 a12 a13 a14 a15 a16 a17 a18 : T} {r : List T} : (a0 :: a1 :: a2 :: a3 :: a4 :: a5 :: a6 :: a7 :: a8 :: a9 :: a10 :: a11 :: a12 :: a13 :: a14 :: a15 :: a16 :: a17 :: a18 :: r).set 18 t = a0 :: a1 :: a2 :: a3 :: a4 :: a5 :: a6 :: a7 :: a8 :: a9 :: a10 :: a11 :: a12 :: a13 :: a14 :: a15 :: a16 :: a17 :: t :: r := rfl
@[simp high] theorem z_put19 {a0 a1 a2 a3 a4 a5 a6 a7 a8 a9 a10 a11 a12 a13 a14 a15 a16 a17 a18 a19 : T} {r : List T} : (a0 :: a1 :: a2 :: a3 :: a4 :: a5 :: a6 :: a7 :: a8 :: a9 :: a10 :: a11 :: a12 :: a13 :: a14 :: a15 :: a16 :: a17 :: a18 :: a19 :: r).set 19 t = a0 :: a1 :: a2 :: a3 :: a4 :: a5 :: a6 :: a7 :: a8 :: a9 :: a10 :: a11 :: a12 :: a13 :: a14 :: a15 :: a16 :: a17 :: a18 :: t :: r := rfl
@[simp high] theorem z_put20 {a0 a1 a2 a3 a4 a5 a6 a7 a8 a9 a10 a11 a12 a13 a14 a15 a16 a17 a18 a19 a20 : T} {r : List T} : (a0 :: a1 :: a2 :: a3 :: a4 :: a5 :: a6 :: a7 :: a8 :: a9 :: a10 :: a11 :: a12 :: a13 :: a14 :: a15 :: a16 :: a17 :: a18 :: a19 :: a20 :: r).set 20 t = a0 :: a1 :: a2 :: a3 :: a4 :: a5 :: a6 :: a7 :: a8 :: a9 :: a10 :: a11 :: a12 :: a13 :: a14 :: a15 :: a16 :: a17 :: a18 :: a19 :: t :: r := rfl
@[simp high] theorem z_put21 {a0 a1 a2 a3 a4 a5 a6 a7 a8 a9 a10 a11 a12 a13 a14 a15 a16 a17 a18 a19 a20 a21 : T} {r : List T} : (a0 :: a1 :: a2 :: a3 :: a4 :: a5 :: a6 :: a7 :: a8 :: a9 :: a10 :: a11 :: a12 :: a13 :: a14 :: a15 :: a16 :: a17 :: a18 :: a19 :: a20 :: a21 :: r).set 21 t = a0 :: a1 :: a2 :: a3 :: a4 :: a5 :: a6 :: a7 :: a8 :: a9 :: a10 :: a11 :: a12 :: a13 :: a14 :: a15 :: a16 :: a17 :: a18 :: a19 :: a20 :: t :: r := rfl
@[simp high] theorem z_put22 {a0 a1 a2 a3 a4 a5 a6 a7 a8 a9 a10 a11 a12 a13 a14 a15 a16 a17 a18 a19 a20 a21 a22 : T} {r : List T} : (a0 :: a1 :: a2 :: a3 :: a4 :: a5 :: a6 :: a7 :: a8 :: a9 :: a10 :: a11 :: a12 :: a13 :: a14 :: a15 :: a16 :: a17 :: a18 :: a19 :: a20 :: a21 :: a22 :: r).set 22 t = a0 :: a1 :: a2 :: a3 :: a4 :: a5 :: a6 :: a7 :: a8 :: a9 :: a10 :: a11 :: a12 :: a13 :: a14 :: a15 :: a16 :: a17 :: a18 :: a19 :: a20 :: a21 :: t :: r := rfl
@[simp high] theorem z_put23 {a0 a1 a2 a3 a4 a5 a6 a7 a8 a9 a10 a11 a12 a13 a14 a15 a16 a17 a18 a19 a20 a21 a22 a23 : T} {r : List T} : (a0 :: a1 :: a2 :: a3 :: a4 :: a5 :: a6 :: a7 :: a8 :: a9 :: a10 :: a11 :: a12 :: a13 :: a14 :: a15 :: a16 :: a17 :: a18 :: a19 :: a20 :: a21 :: a22 :: a23 :: r).set 23 t = a0 :: a1 :: a2 :: a3 :: a4 :: a5 :: a6 :: a7 :: a8 :: a9 :: a10 :: a11 :: a12 :: a13 :: a14 :: a15 :: a16 :: a17 :: a18 :: a19 :: a20 :: a21 :: a22 :: t :: r := rfl
@[simp high] theorem z_put24 {a0 a1 a2 a3 a4 a5 a6 a7 a8 a9 a10 a11 a12 a13 a14 a15 a16 a17 a18 a19 a20 a21 a22 a23 a24 : T} {r : List T} : (a0 :: a1 :: a2 :: a3 :: a4 :: a5 :: a6 :: a7 :: a8 :: a9 :: a10 :: a11 :: a12 :: a13 :: a14 :: a15 :: a16 :: a17 :: a18 :: a19 :: a20 :: a21 :: a22 :: a23 :: a24 :: r).set 24 t = a0 :: a1 :: a2 :: a3 :: a4 :: a5 :: a6 :: a7 :: a8 :: a9 :: a10 :: a11 :: a12 :: a13 :: a14 :: a15 :: a16 :: a17 :: a18 :: a19 :: a20 :: a21 :: a22 :: a23 :: t :: r := rfl
@[simp high] theorem z_put25 {a0 a1 a2 a3 a4 a5 a6 a7 a8 a9 a10 a11 a12 a13 a14 a15 a16 a17 a18 a19 a20 a21 a22 a23 a24 a25 : T} {r : List T} : (a0 :: a1 :: a2 :: a3 :: a4 :: a5 :: a6 :: a7 :: a8 :: a9 :: a10 :: a11 :: a12 :: a13 :: a14 :: a15 :: a16 :: a17 :: a18 :: a19 :: a20 :: a21 :: a22 :: a23 :: a24 :: a25 :: r).set 25 t = a0 :: a1 :: a2 :: a3 :: a4 :: a5 :: a6 :: a7 :: a8 :: a9 :: a10 :: a11 :: a12 :: a13 :: a14 :: a15 :: a16 :: a17 :: a18 :: a19 :: a20 :: a21 :: a22 :: a23 :: a24 :: t :: r := rfl
@[simp] theorem z_un_un : isUn (T.un) = true := rfl
@[simp] theorem z_ow_un : ow (T.un) = false := rfl
@[simp] theorem z_fz_un : fz (T.un) = .un := rfl
@[simp] theorem z_un_i : isUn (T.i i) = false := rfl
@[simp] theorem z_ow_i : ow (T.i i) = false := rfl
@[simp] theorem z_fz_i : fz (T.i i) = .i i := rfl
@[simp] theorem z_un_s : isUn (T.s x) = false := rfl
@[simp] theorem z_ow_s : ow (T.s x) = false := rfl
@[simp] theorem z_fz_s : fz (T.s x) = .s x := rfl
@[simp] theorem z_un_b : isUn (T.b k) = false := rfl
@[simp] theorem z_ow_b : ow (T.b k) = false := rfl
@[simp] theorem z_fz_b : fz (T.b k) = .b k := rfl
@[simp] theorem z_un_n : isUn (T.n) = false := rfl
@[simp] theorem z_ow_n : ow (T.n) = false := rfl
@[simp] theorem z_fz_n : fz (T.n) = .n := rfl
@[simp] theorem z_un_cls : isUn (T.cls x) = false := rfl
@[simp] theorem z_ow_cls : ow (T.cls x) = false := rfl
@[simp] theorem z_fz_cls : fz (T.cls x) = .cls x := rfl
@[simp] theorem z_un_scr : isUn (T.scr ns) = false := rfl
@[simp] theorem z_ow_scr : ow (T.scr ns) = false := rfl
@[simp] theorem z_fz_scr : fz (T.scr ns) = .scr ns := rfl
@[simp] theorem z_un_ty {x : String} : isUn (.lf (.ty x)) = false := rfl
@[simp] theorem z_ow_ty {x : String} : ow (.lf (.ty x)) = false := rfl
@[simp] theorem z_fz_ty {x : String} : fz (.lf (.ty x)) = .lf (.ty x) := rfl
@[simp] theorem z_un_tup : isUn (.tup ts) = false := rfl
@[simp] theorem z_ow_tup : ow (.tup ts) = ows ts := rfl
@[simp] theorem z_fz_tup : fz (.tup ts) = .tup (fzs ts) := rfl
@[simp] theorem z_un_nd {q : Kd} : isUn (.nd q o ts) = false := rfl
@[simp] theorem z_ow_nd {q : Kd} : ow (.nd q o ts) = o := rfl
@[simp] theorem z_fz_nd1 {q : Kd} : fz (.nd q true ts) = .nd q false (fzs ts) := rfl
@[simp] theorem z_fz_nd0 {q : Kd} : fz (.nd q false ts) = .nd q false ts := rfl
@[simp] theorem z_ows_n : ows [] = false := rfl
@[simp] theorem z_ows_c : ows (t :: ts) = (ow t || ows ts) := rfl
@[simp] theorem z_fzs_n : fzs [] = [] := rfl
@[simp] theorem z_fzs_c : fzs (t :: ts) = fz t :: fzs ts := rfl
theorem ows_all : ∀ {ts : List T}, (∀ t ∈ ts, ow t = false) → ows ts = false
  | [], _ => rfl
  | t :: ts, h => by
    show (ow t || ows ts) = false
    rw [h t List.mem_cons_self, ows_all fun u hu => h u (List.mem_cons_of_mem _ hu)] <;> rfl
theorem z_ows_mem : ∀ {ts : List T}, ows ts = false → ∀ t ∈ ts, ow t = false
  | [], _, _, h => nomatch h
  | t :: ts, h, u, hu => by
    obtain ⟨h1, h2⟩ := Bool.or_eq_false_iff.mp (show (ow t || ows ts) = false from h)
    rcases List.mem_cons.mp hu with rfl | hu
    · exact h1
    · exact z_ows_mem h2 u hu
@[simp] theorem z_ows_app : ows (ts ++ us) = (ows ts || ows us) := by
  induction ts with
  | nil => rfl
  | cons t ts ih => show (ow t || ows (ts ++ us)) = ((ow t || ows ts) || ows us); rw [ih, Bool.or_assoc]
@[simp] theorem z_ows_s {xs : List Str} : ows (xs.map T.s) = false := ows_all fun t h => by obtain ⟨_, _, rfl⟩ := List.mem_map.mp h; rfl
@[simp] theorem z_ows_i : ows (ns.map T.i) = false := ows_all fun t h => by obtain ⟨_, _, rfl⟩ := List.mem_map.mp h; rfl
@[simp] theorem z_ows_l {β : Type} {f : β → V} {l : List β} : ows (l.map fun a => T.lf (f a)) = false := ows_all fun t h => by obtain ⟨_, _, rfl⟩ := List.mem_map.mp h; rfl
@[simp] theorem z_ows_k : ows (ks.map keyT) = false := ows_all fun t h => by obtain ⟨q, _, rfl⟩ := List.mem_map.mp h; cases q <;> rfl
mutual
theorem z_fz_ow' : ∀ (t : T), ow t = false → fz t = t
  | .un, _ => rfl
  | .lf _, _ => rfl
  | .cls _, _ => rfl
  | .scr _, _ => rfl
  | .cel _, h => by cases h
  | .tup ts, h => by show T.tup (fzs ts) = _; rw [fzs_no' ts h]
  | .nd k o ts, h => by cases o with
    | true => cases h
    | false => rfl
theorem fzs_no' : ∀ (ts : List T), ows ts = false → fzs ts = ts
  | [], _ => rfl
  | t :: ts, h => by
    obtain ⟨h1, h2⟩ := Bool.or_eq_false_iff.mp (show (ow t || ows ts) = false from h)
    show fz t :: fzs ts = t :: ts
    rw [z_fz_ow' t h1, fzs_no' ts h2]
end
theorem z_fz_ow (h : ow t = false) : fz t = t := z_fz_ow' t h
theorem fzs_no {ts : List T} (h : ows ts = false) : fzs ts = ts := fzs_no' ts h
@[simp] theorem z_fzs_app : fzs (ts ++ us) = fzs ts ++ fzs us := by
  induction ts with
  | nil => rfl
  | cons t ts ih => show fz t :: fzs (ts ++ us) = fz t :: (fzs ts ++ fzs us); rw [ih]
@[simp] theorem z_fzs_s {xs : List Str} : fzs (xs.map T.s) = xs.map T.s := fzs_no z_ows_s
@[simp] theorem z_fzs_i : fzs (ns.map T.i) = ns.map T.i := fzs_no z_ows_i
@[simp] theorem z_fzs_l {β : Type} {f : β → V} {l : List β} : fzs (l.map fun a => T.lf (f a)) = l.map fun a => T.lf (f a) := fzs_no z_ows_l
@[simp] theorem z_fzs_k : fzs (ks.map keyT) = ks.map keyT := fzs_no z_ows_k
@[simp] theorem z_isL_un : isLst (T.un) = false := rfl
@[simp] theorem z_isD_un : isDct (T.un) = false := rfl
@[simp] theorem z_isL_i : isLst (T.i i) = false := rfl
@[simp] theorem z_isD_i : isDct (T.i i) = false := rfl
@[simp] theorem z_isL_s : isLst (T.s x) = false := rfl
@[simp] theorem z_isD_s : isDct (T.s x) = false := rfl
@[simp] theorem z_isL_b : isLst (T.b k) = false := rfl
@[simp] theorem z_isD_b : isDct (T.b k) = false := rfl
@[simp] theorem z_isL_n : isLst (T.n) = false := rfl
@[simp] theorem z_isD_n : isDct (T.n) = false := rfl
@[simp] theorem z_isL_cls : isLst (T.cls x) = false := rfl
@[simp] theorem z_isD_cls : isDct (T.cls x) = false := rfl
@[simp] theorem z_isL_scr : isLst (T.scr ns) = false := rfl
@[simp] theorem z_isD_scr : isDct (T.scr ns) = false := rfl
@[simp] theorem z_isL_tup : isLst (T.tup ts) = false := rfl
@[simp] theorem z_isD_tup : isDct (T.tup ts) = false := rfl
@[simp] theorem z_isL_lst : isLst (T.nd .lst o ts) = true := rfl
@[simp] theorem z_isD_lst : isDct (T.nd .lst o ts) = false := rfl
@[simp] theorem z_isL_dct : isLst (T.nd (.dct ks) o ts) = false := rfl
@[simp] theorem z_isD_dct : isDct (T.nd (.dct ks) o ts) = true := rfl
@[simp] theorem z_isL_obj : isLst (T.nd (.obj C fs) o ts) = false := rfl
@[simp] theorem z_isD_obj : isDct (T.nd (.obj C fs) o ts) = false := rfl
@[simp] theorem z_tag_n : tagOf (T.n) = some (.b "NoneType") := rfl
@[simp] theorem z_tag_b : tagOf (T.b k) = some (.b "bool") := rfl
@[simp] theorem z_tag_i : tagOf (T.i i) = some (.b "int") := rfl
@[simp] theorem z_tag_s : tagOf (T.s x) = some (.b "str") := rfl
@[simp] theorem z_tag_tup : tagOf (T.tup ts) = some (.b "tuple") := rfl
@[simp] theorem z_tag_lst : tagOf (T.nd .lst o ts) = some (.b "list") := rfl
@[simp] theorem z_tag_dct : tagOf (T.nd (.dct ks) o ts) = some (.b "dict") := rfl
@[simp] theorem z_tag_obj : tagOf (T.nd (.obj C fs) o ts) = some (.c C) := rfl
@[simp] theorem z_tags_NoneType : (tagsOf p).contains (.b "NoneType") = true := List.contains_iff_mem.mpr (List.mem_append_left _ (by decide))
@[simp] theorem z_tags_int : (tagsOf p).contains (.b "int") = true := List.contains_iff_mem.mpr (List.mem_append_left _ (by decide))
@[simp] theorem z_tags_bool : (tagsOf p).contains (.b "bool") = true := List.contains_iff_mem.mpr (List.mem_append_left _ (by decide))
@[simp] theorem z_tags_str : (tagsOf p).contains (.b "str") = true := List.contains_iff_mem.mpr (List.mem_append_left _ (by decide))
@[simp] theorem z_tags_list : (tagsOf p).contains (.b "list") = true := List.contains_iff_mem.mpr (List.mem_append_left _ (by decide))
@[simp] theorem z_tags_tuple : (tagsOf p).contains (.b "tuple") = true := List.contains_iff_mem.mpr (List.mem_append_left _ (by decide))
@[simp] theorem z_tags_dict : (tagsOf p).contains (.b "dict") = true := List.contains_iff_mem.mpr (List.mem_append_left _ (by decide))
@[simp] theorem z_tags_c : (tagsOf p).contains (.c C) = p.cls.contains C := by
  rw [Bool.eq_iff_iff, List.contains_iff_mem, List.contains_iff_mem]
  unfold tagsOf
  rw [List.mem_append]
  constructor
  · rintro (h | h)
    · simp [baseTags] at h
    · obtain ⟨q, h1, h2⟩ := List.mem_map.mp h
      cases h2
      exact h1
  · exact fun h => .inr (List.mem_map_of_mem h)
@[simp] theorem z_tagm_NoneType : (Tag.b "NoneType" ∈ tagsOf p) = True := eq_true (List.mem_append_left _ (by decide))
@[simp] theorem z_tagm_int : (Tag.b "int" ∈ tagsOf p) = True := eq_true (List.mem_append_left _ (by decide))
@[simp] theorem z_tagm_bool : (Tag.b "bool" ∈ tagsOf p) = True := eq_true (List.mem_append_left _ (by decide))
@[simp] theorem z_tagm_str : (Tag.b "str" ∈ tagsOf p) = True := eq_true (List.mem_append_left _ (by decide))
@[simp] theorem z_tagm_list : (Tag.b "list" ∈ tagsOf p) = True := eq_true (List.mem_append_left _ (by decide))
@[simp] theorem z_tagm_tuple : (Tag.b "tuple" ∈ tagsOf p) = True := eq_true (List.mem_append_left _ (by decide))
@[simp] theorem z_tagm_dict : (Tag.b "dict" ∈ tagsOf p) = True := eq_true (List.mem_append_left _ (by decide))
@[simp] theorem z_tagm_c : (Tag.c C ∈ tagsOf p) = (C ∈ p.cls) := by
  have := z_tags_c (p := p) (C := C)
  rw [Bool.eq_iff_iff, List.contains_iff_mem, List.contains_iff_mem] at this
  exact propext this
@[simp] theorem z_cls1_ty {n : String} : cls1 (.ty n) = some (.b n) := rfl
@[simp] theorem z_cls1_cls {n : Str} : cls1 (.cls n) = some (.c n) := rfl
@[simp] theorem z_okT {tg : Tag} {ug : List Tag} : (okTags p tg ug = true) = (((tagsOf p).contains tg && ug.all fun u => (tagsOf p).contains u) = true ∧ ug.length ≤ 100) := by
  unfold okTags
  rw [Bool.and_eq_true, decide_eq_true_eq]
@[simp] theorem z_tru_n : truT .n = some false := rfl
@[simp] theorem z_tru_b : truT (.b k) = some k := rfl
@[simp] theorem z_tru_i : truT (.i i) = some (!decide (i = 0)) := by show some (i != 0) = _; congr 1
@[simp] theorem z_tru_lst : truT (.nd .lst o ts) = some !ts.isEmpty := rfl
@[simp] theorem z_tru_tup : truT (.tup ts) = some !ts.isEmpty := rfl
@[simp] theorem z_tru_dct : truT (.nd (.dct ks) true ts) = some !ks.isEmpty := rfl
@[simp] theorem z_len_lst : lenT (.nd .lst o ts) = some ts.length := rfl
@[simp] theorem z_len_tup : lenT (.tup ts) = some ts.length := rfl
@[simp] theorem z_len_dct : lenT (.nd (.dct ks) o ts) = some ks.length := rfl
@[simp] theorem z_len_s : lenT (.s y) = gd (y.length ≤ 16777216) (some y.length) := by
  show (if y.length ≤ sizeLine then _ else _) = _
  unfold gd
  by_cases h : y.length ≤ 16777216
  · rw [if_pos (sz h), if_pos h]
  · rw [if_neg (by rw [sizeLine_eq]; exact h), if_neg h]
@[simp] theorem z_addi : binF .Add (.i i) (.i j) = some (.i (i + j)) := rfl
@[simp] theorem z_adds : binF .Add (.s x) (.s y) = gd (x.length + y.length ≤ 16777216) (some (.s (x ++ y))) := rfl
@[simp] theorem z_addl : binF .Add (.nd .lst o ts) (.nd .lst o2 us) = gd (ts.length + us.length ≤ 16777216) (some (.nd .lst true (ts ++ us))) := rfl
@[simp] theorem z_addt : binF .Add (.tup ts) (.tup us) = gd (ts.length + us.length ≤ 16777216) (some (.tup (ts ++ us))) := rfl
@[simp] theorem z_sub : binF .Sub (.i i) (.i j) = some (.i (i - j)) := rfl
@[simp] theorem z_mul : binF .Mult (.i i) (.i j) = gd (CMulW i j) (some (.i (i * j))) := rfl
@[simp] theorem z_div : binF .FloorDiv (.i i) (.i j) = gd (j ≠ 0 ∧ j.natAbs < 1073741824) (some (.i (fd i j))) := rfl
@[simp] theorem z_mod : binF .Mod (.i i) (.i j) = gd (j ≠ 0) (some (.i (fm i j))) := rfl
@[simp] theorem z_pow : binF .Pow (.i i) (.i j) = gd (0 ≤ j ∧ j ≤ 1000000 ∧ i.natAbs < 2 ^ 64) (some (.i (i ^ j.toNat))) := rfl
@[simp] theorem z_rep : binF .Mult (.nd .lst o ts) (.i i) = gd (-(2 ^ 63) ≤ i ∧ i < 2 ^ 63 ∧ ts.length * i.toNat ≤ 16777216) (gd (ows ts = false) (some (.nd .lst true (List.replicate i.toNat ts).flatten))) := rfl
@[simp] theorem z_lt : cmpT .Lt (.i i) (.i j) = some (decide (i < j)) := rfl
@[simp] theorem z_le : cmpT .LtE (.i i) (.i j) = some (decide (i ≤ j)) := rfl
@[simp] theorem z_gt : cmpT .Gt (.i i) (.i j) = some (decide (j < i)) := rfl
@[simp] theorem z_ge : cmpT .GtE (.i i) (.i j) = some (decide (j ≤ i)) := rfl
@[simp] theorem z_eq : cmpT .Eq t u = eqT t u := rfl
@[simp] theorem z_ne : cmpT .NotEq t u = (eqT t u).map (!·) := rfl
@[simp] theorem z_is : cmpT .Is t u = isT t u := rfl
@[simp] theorem z_isn : cmpT .IsNot t u = (isT t u).map (!·) := rfl
@[simp] theorem z_in : cmpT .In t u = inT t u := rfl
@[simp] theorem z_nin : cmpT .NotIn t u = (inT t u).map (!·) := rfl
@[simp] theorem z_is_i : isT (.i i) .n = some false := rfl
@[simp] theorem z_is_s : isT (.s x) .n = some false := rfl
@[simp] theorem z_is_b : isT (.b k) .n = some false := rfl
@[simp] theorem z_is_n : isT .n .n = some true := rfl
@[simp] theorem z_is_tup : isT (.tup ts) .n = some false := rfl
@[simp] theorem z_is_nd {q : Kd} : isT (.nd q o ts) .n = some false := rfl
@[simp] theorem z_is_scr : isT (.scr ns) .n = some false := rfl
@[simp] theorem z_is_bb : isT (.b k) (.b o) = some (decide (k = o)) := rfl
@[simp] theorem z_eq_ii : eqT (.i i) (.i j) = some (decide (i = j)) := by rw [eqT_ii]; congr 1
@[simp] theorem z_eq_nn : eqT .n .n = some true := rfl
@[simp] theorem z_eq_bb : eqT (.b k) (.b o) = some (k == o) := rfl
@[simp] theorem z_eq_in : eqT (.i i) .n = some false := rfl
@[simp] theorem z_eq_ni : eqT .n (.i i) = some false := rfl
theorem shaped_i : SeqAt.shaped (.int i) = true := shaped_mk (by simp only [PyData.canLay0]) (by simp [PyData.depth])
theorem shaped_str (h : PyData.strOk x = true) : SeqAt.shaped (.str x) = true := shaped_mk (by simp only [PyData.canLay0]; exact h) (by simp [PyData.depth])
theorem eq_sg (hx : PyData.strOk x = true) (hy : PyData.strOk y = true) : eqT (.s x) (.s y) = some (decide (x = y)) := by
  rw [eqT_ss, shaped_str hx, shaped_str hy]
  show some (x == y) = _
  congr 1
theorem shaped_no (h : PyData.strOk x = false) : SeqAt.shaped (.str x) = false := by
  unfold SeqAt.shaped
  simp only [PyData.canLay0, h, Bool.false_and]
@[simp] theorem z_eq_ss : eqT (.s x) (.s y) = gd (PyData.strOk x = true) (gd (PyData.strOk y = true) (some (decide (x = y)))) := by
  by_cases hx : PyData.strOk x = true
  · by_cases hy : PyData.strOk y = true
    · rw [eq_sg hx hy, gd_t hx, gd_t hy]
    · rw [gd_t hx, eqT_ss, shaped_str hx, shaped_no (by simpa using hy)]
      exact (if_neg hy).symm
  · rw [eqT_ss, shaped_no (by simpa using hx)]
    exact (if_neg hx).symm
@[simp] theorem z_b_len : bltF .len t = (lenT t).map fun n => .i n := by show (match lenT t with | some n => some (T.i n) | none => none) = _; cases lenT t <;> rfl
@[simp] theorem z_b_list : bltF .list (.nd .lst o ts) = gd (ows ts = false) (some (.nd .lst true ts)) := rfl
@[simp] theorem z_b_listt : bltF .list (.tup ts) = gd (ows ts = false) (some (.nd .lst true ts)) := rfl
@[simp] theorem z_b_lists : bltF .list (.scr ns) = some (.nd .lst true (ns.map .i)) := rfl
@[simp] theorem z_b_listd : bltF .list (.nd (.dct ks) o ts) = some (.nd .lst true (ks.map keyT)) := rfl
@[simp] theorem z_b_tup : bltF .tuple (.nd .lst o ts) = gd (ows ts = false) (some (.tup ts)) := rfl
@[simp] theorem z_b_tupt : bltF .tuple (.tup ts) = gd (ows ts = false) (some (.tup ts)) := rfl
@[simp] theorem z_b_int : bltF .int (.i i) = some (.i i) := rfl
@[simp] theorem z_b_intb : bltF .int (.b k) = some (.i (if k = true then 1 else 0)) := rfl
@[simp] theorem z_b_str : bltF .str (.i i) = gd (i.natAbs.log2 < 1920) (some (.s (toString i))) := rfl
@[simp] theorem z_b_abs : bltF .abs (.i i) = some (.i (if i < 0 then -i else i)) := rfl
@[simp] theorem z_log (h : -1000000000000000000000000000000 < i ∧ i < 1000000000000000000000000000000) : gd (i.natAbs.log2 < 1920) z = z := gd_t (by
  by_cases e : i.natAbs = 0
  · rw [e]; decide
  · exact Nat.lt_trans ((Nat.log2_lt (k := 200) e).mpr (by omega)) (by decide))
def allB : Option (List Bool) → Option T
  | some bs => some (.b (bs.all id))
  | none => none
def anyB : Option (List Bool) → Option T
  | some bs => some (.b (bs.any id))
  | none => none
def sumB : Option (List Int) → Option T
  | some bs => some (.i bs.sum)
  | none => none
@[simp] theorem z_b_all : bltF .all (.nd .lst o ts) = allB (boolsOf ts) := rfl
@[simp] theorem z_b_any : bltF .any (.nd .lst o ts) = anyB (boolsOf ts) := rfl
@[simp] theorem z_b_sum : bltF .sum (.nd .lst o ts) = sumB (intsOf ts) := rfl
@[simp] theorem z_allB {bs : List Bool} : allB (some bs) = some (.b (bs.all id)) := rfl
@[simp] theorem z_anyB {bs : List Bool} : anyB (some bs) = some (.b (bs.any id)) := rfl
@[simp] theorem z_sumB : sumB (some ns) = some (.i ns.sum) := rfl
def maxB : Option (List Int) → Option T
  | some (n :: ns) => some (.i (ns.foldl (fun a b => if a < b then b else a) n))
  | _ => none
def minB : Option (List Int) → Option T
  | some (n :: ns) => some (.i (ns.foldl (fun a b => if b < a then b else a) n))
  | _ => none
@[simp] theorem z_b_max : bltF .max (.nd .lst o ts) = maxB (intsOf ts) := rfl
@[simp] theorem z_b_min : bltF .min (.nd .lst o ts) = minB (intsOf ts) := rfl
@[simp] theorem z_maxB : maxB (some (i :: ns)) = some (.i (ns.foldl (fun a b => if a < b then b else a) i)) := rfl
@[simp] theorem z_minB : minB (some (i :: ns)) = some (.i (ns.foldl (fun a b => if b < a then b else a) i)) := rfl
@[simp] theorem z_ints_i : intsOf (ns.map T.i) = some ns := by
  induction ns with
  | nil => rfl
  | cons n ns ih => show (intsOf (ns.map T.i)).map _ = _; rw [ih] <;> rfl
@[simp] theorem z_ints_n : intsOf [] = some [] := rfl
@[simp] theorem z_ints_c : intsOf (.i i :: ts) = (intsOf ts).map fun ns => i :: ns := rfl
@[simp] theorem z_bools_n : boolsOf [] = some [] := rfl
@[simp] theorem z_bools_c : boolsOf (.b k :: ts) = (boolsOf ts).map fun ns => k :: ns := rfl
@[simp] theorem z_bools_m {β : Type} {f : β → Bool} {l : List β} : boolsOf (l.map fun a => T.b (f a)) = some (l.map f) := by
  induction l with
  | nil => rfl
  | cons n ns ih => show (boolsOf (ns.map fun a => T.b (f a))).map _ = _; rw [ih] <;> rfl
@[simp] theorem z_bools_b {bs : List Bool} : boolsOf (bs.map T.b) = some bs := by
  induction bs with
  | nil => rfl
  | cons n ns ih => show (boolsOf (ns.map T.b)).map _ = _; rw [ih] <;> rfl
@[simp] theorem z_ints_m {β : Type} {f : β → Int} {l : List β} : intsOf (l.map fun a => T.i (f a)) = some (l.map f) := by
  induction l with
  | nil => rfl
  | cons n ns ih => show (intsOf (ns.map fun a => T.i (f a))).map _ = _; rw [ih] <;> rfl
@[simp] theorem z_max2 : blt2F .max (.i i) (.i j) = some (.i (if j > i then j else i)) := rfl
@[simp] theorem z_min2 : blt2F .min (.i i) (.i j) = some (.i (if j < i then j else i)) := rfl
@[simp] theorem z_sl_l {lo hi : Option Int} : sliceF (.nd .lst o ts) lo hi = gd (ows ts = false) (some (.nd .lst true (cutL ts lo hi))) := rfl
@[simp] theorem z_sl_t {lo hi : Option Int} : sliceF (.tup ts) lo hi = gd (ows ts = false) (some (.tup (cutL ts lo hi))) := rfl
@[simp] theorem z_sl_s {lo hi : Option Int} : sliceF (.s x) lo hi = gd (x.length ≤ 16777216) (some (.s (cutS x lo hi))) := rfl
def popK (ts : List T) : Option T → Option (T × T)
  | some y => some (.nd .lst true ts.dropLast, y)
  | none => none
@[simp] theorem z_popK : popK ts (some t) = some (.nd .lst true ts.dropLast, t) := rfl
@[simp] theorem z_pop0 : mth0F .pop0 (.nd .lst true ts) = popK ts ts[ts.length - 1]? := by show (match ts[ts.length - 1]? with | some y => some (T.nd .lst true ts.dropLast, y) | none => none) = _; cases ts[ts.length - 1]? <;> rfl
@[simp] theorem z_app : mth1F .append (.nd .lst true ts) t = gd (ts.length < 16777216) (some (.nd .lst true (ts ++ [t]), .n)) := rfl
@[simp] theorem z_ext : mth1F .extend (.nd .lst true ts) (.nd .lst o us) = gd (ts.length + us.length ≤ 16777216) (some (.nd .lst true (ts ++ us), .n)) := rfl
def popI (ts : List T) (k : Nat) : Option T → Option (T × T)
  | some y => some (.nd .lst true (ts.eraseIdx k), y)
  | none => none
def popJ (ts : List T) : Option Nat → Option (T × T)
  | some k => popI ts k ts[k]?
  | none => none
@[simp] theorem z_popI : popI ts n (some t) = some (.nd .lst true (ts.eraseIdx n), t) := rfl
@[simp] theorem z_popJ : popJ ts (some n) = popI ts n ts[n]? := rfl
@[simp] theorem z_pop1 : mth1F .pop1 (.nd .lst true ts) (.i i) = gd (-(2 ^ 63) ≤ i ∧ i < 2 ^ 63) (popJ ts (seqIndex? i ts.length)) := by
  show gd _ (match seqIndex? i ts.length with | some k => (match ts[k]? with | some y => some (T.nd .lst true (ts.eraseIdx k), y) | none => none) | none => none) = _
  rfl
@[simp] theorem z_sx0 : seqIndex? 0 (n + 1) = some 0 := by unfold seqIndex?; simp
def setI (ts : List T) (t : T) : Option Nat → Option T
  | some j => some (.nd .lst true (ts.set j t))
  | none => none
@[simp] theorem z_setI : setI ts t (some n) = some (.nd .lst true (ts.set n t)) := rfl
@[simp] theorem z_set_l : setF (.nd .lst true ts) (.i i) t = setI ts t (ixN ts.length i) := by show (match ixN ts.length i with | some j => some (T.nd .lst true (ts.set j t)) | none => none) = _; cases ixN ts.length i <;> rfl
def setD (ks : List Key) (ts : List T) (t : T) (q : Key) : T := .nd (.dct (putD ks ts q t).1) true (putD ks ts q t).2
noncomputable def setK (ks : List Key) (ts : List T) (t : T) : Option Key → Option T
  | some q => gd (ks.length < 16777216) (gd (ow t = false ∨ ks.Nodup) (some (setD ks ts t q)))
  | none => none
@[simp] theorem z_setK {q : Key} : setK ks ts t (some q) = gd (ks.length < 16777216) (gd (ow t = false ∨ ks.Nodup) (some (setD ks ts t q))) := rfl
@[simp] theorem z_set_d : setF (.nd (.dct ks) true ts) u t = setK ks ts t (toKey u) := by
  have h : setF (.nd (.dct ks) true ts) u t = match toKey u with
    | some k' => gd (ks.length < 16777216) (gd (ow t = false ∨ ks.Nodup) (some (.nd (.dct (putD ks ts k' t).1) true (putD ks ts k' t).2)))
    | none => none := by
      unfold setF
      rfl
  rw [h]
  cases toKey u <;> rfl
@[simp] theorem z_setF : setFF p f t (.nd (.obj C fs) true ts) = gd (okAt p C f = true) (gd (fs.length < 1000) (some (.nd (.obj C (putFd f t fs ts).1) true (putFd f t fs ts).2))) := rfl
@[simp] theorem z_putFd0 : putFd f t [] [] = ([f], [t]) := rfl
@[simp] theorem z_augi : augF .Add (.i i) (.i j) = some (.i (i + j)) := rfl
@[simp] theorem z_augs : augF .Add (.s x) (.s y) = gd (x.length + y.length ≤ 16777216) (some (.s (x ++ y))) := rfl
@[simp] theorem z_augd : augF .Sub (.i i) (.i j) = some (.i (i - j)) := rfl
@[simp] theorem z_key_i : toKey (.i i) = some (.inl i) := rfl
@[simp] theorem z_key_s : toKey (.s x) = some (.inr x) := rfl
@[simp] theorem z_keyT_i : keyT (.inl i) = .i i := rfl
@[simp] theorem z_keyT_s : keyT (.inr x) = .s x := rfl
@[simp] theorem z_ix_l : idxT (.nd .lst o ts) (.i i) = atI ts i := rfl
@[simp] theorem z_ix_t : idxT (.tup ts) (.i i) = atI ts i := rfl
def dgK (ks : List Key) (ts : List T) : Option Key → Option T
  | some q => dgetT ks ts q
  | none => none
@[simp] theorem z_dgK {q : Key} : dgK ks ts (some q) = dgetT ks ts q := rfl
@[simp] theorem z_ix_d : idxT (.nd (.dct ks) o ts) u = dgK ks ts (toKey u) := by rw [ix_d]; cases toKey u <;> rfl
@[simp] theorem z_in_d : inT u (.nd (.dct ks) o ts) = (toKey u).map fun k => (dgetT ks ts k).isSome := by
  have h : inT u (.nd (.dct ks) o ts) = (toKey u).map fun k => (dgetT ks ts k).isSome := by
    unfold inT
    rfl
  exact h
@[simp] theorem z_fld : fldT p f (.nd (.obj C fs) o ts) = gd (okAt p C f = true) ((fs.zip ts).lookup f) := by
  show (if okAt p C f = true then _ else _) = _
  unfold gd
  by_cases h : okAt p C f = true
  · rw [if_pos h, if_pos h]
  · rw [if_neg h, if_neg h]
@[simp] theorem z_it_l : itemsT .seq [.nd .lst o ts] = some ts := rfl
@[simp] theorem z_it_t : itemsT .seq [.tup ts] = some ts := rfl
@[simp] theorem z_it_d : itemsT .seq [.nd (.dct ks) o ts] = some (ks.map keyT) := rfl
@[simp] theorem z_it_s : itemsT .seq [.s x] = some (x.cps.toList.map fun c => .s ⟨#[c]⟩) := rfl
def rngT (n : Nat) : List T := (List.range n).map fun (k : Nat) => T.i (k : Int)
def rngT2 (i : Int) (n : Nat) : List T := (List.range n).map fun (k : Nat) => T.i (i + (k : Int))
def rngOk (i : Int) : Prop := -(2 ^ 62) ≤ i ∧ i < 2 ^ 62
@[simp] theorem gd_rng (h1 : -1000000000 ≤ i) (h2 : i < 1000000000) : gd (rngOk i) z = z := gd_t ⟨by omega, by omega⟩
@[simp] theorem z_it_r1 : itemsT .rng1 [.i i] = gd (rngOk i) (some (rngT i.toNat)) := by
  show (if -(2 ^ 62) ≤ i ∧ i < 2 ^ 62 then _ else _) = _
  unfold gd
  by_cases h : rngOk i
  · rw [if_pos (show -(2 ^ 62) ≤ i ∧ i < 2 ^ 62 from h), if_pos h]; rfl
  · rw [if_neg (show ¬ (-(2 ^ 62) ≤ i ∧ i < 2 ^ 62) from h), if_neg h]
@[simp] theorem z_it_r2 : itemsT .rng2 [.i i, .i j] = gd (rngOk i) (gd (rngOk j) (some (rngT2 i (j - i).toNat))) := by
  show (if -(2 ^ 62) ≤ i ∧ i < 2 ^ 62 ∧ -(2 ^ 62) ≤ j ∧ j < 2 ^ 62 then _ else _) = _
  unfold gd
  by_cases h : rngOk i
  · by_cases h2 : rngOk j
    · rw [if_pos (show -(2 ^ 62) ≤ i ∧ i < 2 ^ 62 ∧ -(2 ^ 62) ≤ j ∧ j < 2 ^ 62 from ⟨h.1, h.2, h2.1, h2.2⟩), if_pos h, if_pos h2]; rfl
    · rw [if_neg (fun q : -(2 ^ 62) ≤ i ∧ i < 2 ^ 62 ∧ -(2 ^ 62) ≤ j ∧ j < 2 ^ 62 => h2 ⟨q.2.2.1, q.2.2.2⟩), if_pos h, if_neg h2]
  · rw [if_neg (fun q : -(2 ^ 62) ≤ i ∧ i < 2 ^ 62 ∧ -(2 ^ 62) ≤ j ∧ j < 2 ^ 62 => h ⟨q.1, q.2.1⟩), if_neg h]
@[simp] theorem z_ows_r : ows (rngT n) = false := ows_all fun t h => by obtain ⟨_, _, rfl⟩ := List.mem_map.mp h; rfl
@[simp] theorem z_ows_r2 : ows (rngT2 i n) = false := ows_all fun t h => by obtain ⟨_, _, rfl⟩ := List.mem_map.mp h; rfl
@[simp] theorem z_it_e : itemsT .enum [.nd .lst o ts] = some (enumT 0 ts) := rfl
@[simp] theorem z_it_z : itemsT .zip [.nd .lst o ts, .nd .lst o2 us] = some (zipT ts us) := rfl
@[simp] theorem z_it_zt : itemsT .zip [.tup ts, .tup us] = some (zipT ts us) := rfl
@[simp] theorem z_dct1_1 : isDct1 [t] = isDct t := rfl
@[simp] theorem z_dct1_2 : isDct1 [t, u] = false := rfl
theorem ix_nat {n k : Nat} (h : k < n) : ixN n (k : Int) = some k := by
  unfold ixN
  rw [if_pos (by omega), if_pos (by omega), Int.toNat_natCast]
@[simp] theorem z_at0 : atI (t :: ts) 0 = some t := by
  unfold atI
  rw [show ((0 : Int)) = ((0 : Nat) : Int) from rfl, ix_nat (by simp)]
  rfl
@[simp] theorem z_ix0 : ixN (l + 1) 0 = some 0 := by rw [show ((0 : Int)) = ((0 : Nat) : Int) from rfl, ix_nat (by omega)]
@[simp] theorem z_at1 : atI (t :: t1 :: ts) 1 = some t1 := by
  unfold atI
  rw [show ((1 : Int)) = ((1 : Nat) : Int) from rfl, ix_nat (by simp)]
  rfl
@[simp] theorem z_ix1 : ixN (l + 2) 1 = some 1 := by rw [show ((1 : Int)) = ((1 : Nat) : Int) from rfl, ix_nat (by omega)]
@[simp] theorem z_at2 : atI (t :: t1 :: t2 :: ts) 2 = some t2 := by
  unfold atI
  rw [show ((2 : Int)) = ((2 : Nat) : Int) from rfl, ix_nat (by simp)]
  rfl
@[simp] theorem z_ix2 : ixN (l + 3) 2 = some 2 := by rw [show ((2 : Int)) = ((2 : Nat) : Int) from rfl, ix_nat (by omega)]
@[simp] theorem z_at3 : atI (t :: t1 :: t2 :: t3 :: ts) 3 = some t3 := by
  unfold atI
  rw [show ((3 : Int)) = ((3 : Nat) : Int) from rfl, ix_nat (by simp)]
  rfl
@[simp] theorem z_ix3 : ixN (l + 4) 3 = some 3 := by rw [show ((3 : Int)) = ((3 : Nat) : Int) from rfl, ix_nat (by omega)]
@[simp] theorem z_at4 : atI (t :: t1 :: t2 :: t3 :: t4 :: ts) 4 = some t4 := by
  unfold atI
  rw [show ((4 : Int)) = ((4 : Nat) : Int) from rfl, ix_nat (by simp)]
  rfl
@[simp] theorem z_ix4 : ixN (l + 5) 4 = some 4 := by rw [show ((4 : Int)) = ((4 : Nat) : Int) from rfl, ix_nat (by omega)]
@[simp] theorem z_at5 : atI (t :: t1 :: t2 :: t3 :: t4 :: t5 :: ts) 5 = some t5 := by
  unfold atI
  rw [show ((5 : Int)) = ((5 : Nat) : Int) from rfl, ix_nat (by simp)]
  rfl
@[simp] theorem z_ix5 : ixN (l + 6) 5 = some 5 := by rw [show ((5 : Int)) = ((5 : Nat) : Int) from rfl, ix_nat (by omega)]
@[simp] theorem z_ixc : ixN (t :: ts).length i = ixN (ts.length + 1) i := rfl
/-! looks -/
def cqW (t : T) : Bool → Option T
  | false => some t
  | true => none
def cqU : Option T → Option T
  | some t => cqW t (isUn t)
  | none => none
@[simp] theorem z_cqW : cqW t false = some t := rfl
@[simp] theorem z_cqU : cqU (some t) = cqW t (isUn t) := rfl
theorem cqU_eq {z : Option T} : (z.bind fun t => if isUn t = true then none else some t) = cqU z := by
  cases z with
  | none => rfl
  | some t => show (if isUn t = true then none else some t) = cqW t (isUn t); cases isUn t <;> rfl
@[simp] theorem z_cq_var : cq p (.var n) ρ = cqU ρ[n]? := cqU_eq
@[simp] theorem z_cq_int : cq p (.int i) ρ = some (.i i) := rfl
@[simp] theorem z_cq_bl : cq p (.bl k) ρ = some (.b k) := rfl
@[simp] theorem z_cq_non : cq p .non ρ = some .n := rfl
@[simp] theorem z_cq_str : cq p (.str x) ρ = some (.s x) := rfl
@[simp] theorem z_cq_cls : cq p (.cls x) ρ = some (.cls x) := rfl
@[simp] theorem z_cq_neg : cq p (.neg (.int i)) ρ = some (.i (-i)) := rfl
@[simp] theorem z_cq_nil : cq p (.lst []) ρ = some (.nd .lst true []) := rfl
def cqF (p : Px) (f : Str) : Option T → Option T
  | some t => cqU (fldT p f t)
  | none => none
@[simp] theorem z_cqF : cqF p f (some t) = cqU (fldT p f t) := rfl
@[simp] theorem z_cq_attr : cq p (.attr a f) ρ = cqF p f (cq p a ρ) := by
  show (cq p a ρ).bind _ = _
  cases cq p a ρ with
  | none => rfl
  | some t => exact cqU_eq
def cqI : Option T → Option T → Option T
  | some t, some u => cqU (idxT t u)
  | _, _ => none
@[simp] theorem z_cqI : cqI (some t) (some u) = cqU (idxT t u) := rfl
@[simp] theorem z_cq_idx : cq p (.idx a b) ρ = cqI (cq p a ρ) (cq p b ρ) := by
  show (cq p a ρ).bind _ = _
  cases cq p a ρ with
  | none => rfl
  | some t =>
    show (cq p b ρ).bind _ = _
    cases cq p b ρ with
    | none => rfl
    | some u => exact cqU_eq
/-! puts -/
@[simp] theorem z_cput_var : cput p (.var n) ρ t = some (ρ.set n t) := rfl
def cpA (p : Px) (a : Ex) (ρ : Ev) (f : Str) (t : T) : Option T → Option Ev
  | some (.nd (.obj C fs) true ts) => (fs.findIdx? fun y => decide (y = f)).bind fun j => cput p a ρ (.nd (.obj C fs) true (ts.set j t))
  | _ => none
@[simp] theorem z_cput_attr : cput p (.attr a f) ρ t = cpA p a ρ f t (cq p a ρ) := by
  show (match cq p a ρ with | some (.nd (.obj C fs) true ts) => _ | _ => none) = _
  unfold cpA
  rfl
@[simp] theorem z_cpA : cpA p a ρ f t (some (.nd (.obj C fs) true ts)) = (fs.findIdx? fun y => decide (y = f)).bind fun j => cput p a ρ (.nd (.obj C fs) true (ts.set j t)) := rfl
def cpJ (p : Px) (a : Ex) (ρ : Ev) (t : T) (ts : List T) : Option Nat → Option Ev
  | some j => cput p a ρ (.nd .lst true (ts.set j t))
  | none => none
@[simp] theorem z_cpJ : cpJ p a ρ t ts (some n) = cput p a ρ (.nd .lst true (ts.set n t)) := rfl
def cpI (p : Px) (a : Ex) (ρ : Ev) (t : T) : Option T → Option T → Option Ev
  | some (.nd .lst true ts), some (.lf (.int k)) => cpJ p a ρ t ts (ixN ts.length k)
  | some (.nd (.dct ks) true ts), some k => (toKey k).bind fun k => (ks.findIdx? fun y => decide (y = k)).bind fun j => cput p a ρ (.nd (.dct ks) true (ts.set j t))
  | _, _ => none
@[simp] theorem z_cpI_l : cpI p a ρ t (some (.nd .lst true ts)) (some (.i i)) = cpJ p a ρ t ts (ixN ts.length i) := rfl
@[simp] theorem z_cpI_d : cpI p a ρ t (some (.nd (.dct ks) true ts)) (some u) = (toKey u).bind fun k => (ks.findIdx? fun y => decide (y = k)).bind fun j => cput p a ρ (.nd (.dct ks) true (ts.set j t)) := by
  unfold cpI
  rfl
@[simp] theorem z_cput_idx : cput p (.idx a b) ρ t = cpI p a ρ t (cq p a ρ) (cq p b ρ) := by
  rw [cput]
  unfold cpI
  split
  · rename_i ts k e1 e2
    try rw [e1, e2]
    try dsimp only
    cases ixN ts.length k <;> rfl
  · rename_i ks ts k e1 e2
    first | rfl | rw [e1, e2]
  · rename_i h1 h2
    first
      | rfl
      | split
        · rename_i ts k e1 e2
          exact absurd e2 (h1 _ _ e1)
        · rename_i ks ts k e1 e2
          exact absurd e2 (h2 _ _ _ e1)
        · rfl
/-! targets, slots -/
@[simp] theorem z_bind1 : bindF (.one n) t ρ = some (ρ.set n t) := rfl
def bindK (gs : List Tg) (ts : List T) : Option Ev → Option Ev
  | some ρ => bindFs gs ts ρ
  | none => none
@[simp] theorem z_bindK : bindK gg ts (some ρ) = bindFs gg ts ρ := rfl
@[simp] theorem z_bindT : bindF (.tup gg) (.tup ts) ρ = bindFs gg ts ρ := rfl
@[simp] theorem z_bind0 : bindFs [] [] ρ = some ρ := rfl
@[simp] theorem z_bindS : bindFs (g :: gg) (t :: ts) ρ = bindK gg ts (bindF g t ρ) := by
  show (match bindF g t ρ with | some ρ1 => _ | none => none) = _
  cases bindF g t ρ <;> rfl
@[simp] theorem z_tgSl1 : tgSl (.one n) = [n] := rfl
@[simp] theorem z_tgSlT : tgSl (.tup gg) = tgSl.tgSls gg := rfl
@[simp] theorem z_tgSls0 : tgSl.tgSls [] = [] := rfl
@[simp] theorem z_tgSlsS : tgSl.tgSls (g :: gg) = tgSl g ++ tgSl.tgSls gg := rfl
@[simp] theorem z_wipe0 : wipeE ρ [] = ρ := rfl
@[simp] theorem z_wipeS : wipeE ρ (n :: sl) = (wipeE ρ sl).set n .un := rfl
def resK (t : T) : Bool → T
  | true => .un
  | false => t
@[simp] theorem z_resK0 : resK t false = t := rfl
@[simp] theorem z_resK1 : resK t true = .un := rfl
@[simp] theorem z_res0 : resE ρ1 [] ρ = ρ := rfl
@[simp] theorem z_resS : resE ρ1 (n :: sl) ρ = (resE ρ1 sl ρ).set n (resK (ρ1.getD n .un) (ow (ρ1.getD n .un))) := by
  show (resE ρ1 sl ρ).set n (if ow (ρ1.getD n .un) = true then .un else ρ1.getD n .un) = _
  cases ow (ρ1.getD n .un) <;> rfl
@[simp] theorem z_keepA0 : keepA sl [] ts = true := by cases ts <;> rfl
@[simp] theorem z_keepAv : keepA sl (.v n :: gs) (t :: ts) = ((!(ow t) || !(sl.contains n)) && keepA sl gs ts) := rfl
@[simp] theorem z_keepAt : keepA sl (.t u :: gs) (t :: ts) = keepA sl gs ts := rfl
def dvK (ρ : Ev) : Option Nat → Bool
  | some j => isDctQ ρ[j]?
  | none => false
@[simp] theorem z_dvK0 : dvK ρ none = false := rfl
@[simp] theorem z_dvK1 : dvK ρ (some n) = isDctQ ρ[n]? := rfl
@[simp] theorem z_dvar1 : dvar .seq [a] ρ = dvK ρ (isVarE a) := by
  cases a <;> rfl
@[simp] theorem z_dvar2 : dvar .rng1 es ρ = false := rfl
@[simp] theorem z_dvar3 : dvar .rng2 es ρ = false := rfl
@[simp] theorem z_dvar4 : dvar .enum es ρ = false := rfl
@[simp] theorem z_dvar5 : dvar .zip es ρ = false := rfl
@[simp] theorem z_okSk1 : okSk .seq [a] = true := rfl
@[simp] theorem z_okSk2 : okSk .rng1 [a] = true := rfl
@[simp] theorem z_okSk3 : okSk .rng2 [a, b] = true := rfl
@[simp] theorem z_okSk4 : okSk .enum [a] = true := rfl
@[simp] theorem z_okSk5 : okSk .zip [a, b] = true := rfl
@[simp] theorem z_xdAt : xdAt f (xdOf fs ts) = match (fs.zip ts).lookup f with
    | some u => if ow u = false then some u else none
    | none => none := rfl
@[simp] theorem z_strOk_open : PyData.strOk "open" = true := by decide +kernel

variable {op : Operator} {cp cp2 : CmpOp} {es2 : List Ex} {q : Bl} {w : Mt} {sk : Sk}
@[simp] theorem z_v_var : isVarE (.var n) = some n := rfl
@[simp] theorem z_q_var : quiet (.var n) = true := rfl
@[simp] theorem z_n_var : PL.isNon (.var n) = false := rfl
@[simp] theorem z_v_int : isVarE (.int i) = none := rfl
@[simp] theorem z_q_int : quiet (.int i) = true := rfl
@[simp] theorem z_n_int : PL.isNon (.int i) = false := rfl
@[simp] theorem z_v_bl : isVarE (.bl k) = none := rfl
@[simp] theorem z_q_bl : quiet (.bl k) = true := rfl
@[simp] theorem z_n_bl : PL.isNon (.bl k) = false := rfl
@[simp] theorem z_v_non : isVarE (.non) = none := rfl
@[simp] theorem z_q_non : quiet (.non) = true := rfl
@[simp] theorem z_n_non : PL.isNon (.non) = true := rfl
@[simp] theorem z_v_str : isVarE (.str x) = none := rfl
@[simp] theorem z_q_str : quiet (.str x) = true := rfl
@[simp] theorem z_n_str : PL.isNon (.str x) = false := rfl
@[simp] theorem z_v_cls : isVarE (.cls x) = none := rfl
@[simp] theorem z_q_cls : quiet (.cls x) = true := rfl
@[simp] theorem z_n_cls : PL.isNon (.cls x) = false := rfl
@[simp] theorem z_v_bin : isVarE (.bin op a b) = none := rfl
@[simp] theorem z_q_bin : quiet (.bin op a b) = false := rfl
@[simp] theorem z_n_bin : PL.isNon (.bin op a b) = false := rfl
@[simp] theorem z_v_not : isVarE (.not a) = none := rfl
@[simp] theorem z_q_not : quiet (.not a) = false := rfl
@[simp] theorem z_n_not : PL.isNon (.not a) = false := rfl
@[simp] theorem z_v_and : isVarE (.and a b) = none := rfl
@[simp] theorem z_q_and : quiet (.and a b) = false := rfl
@[simp] theorem z_n_and : PL.isNon (.and a b) = false := rfl
@[simp] theorem z_v_or : isVarE (.or a b) = none := rfl
@[simp] theorem z_q_or : quiet (.or a b) = false := rfl
@[simp] theorem z_n_or : PL.isNon (.or a b) = false := rfl
@[simp] theorem z_v_ite : isVarE (.ite a b d) = none := rfl
@[simp] theorem z_q_ite : quiet (.ite a b d) = false := rfl
@[simp] theorem z_n_ite : PL.isNon (.ite a b d) = false := rfl
@[simp] theorem z_v_cmp : isVarE (.cmp cp a b) = none := rfl
@[simp] theorem z_q_cmp : quiet (.cmp cp a b) = false := rfl
@[simp] theorem z_n_cmp : PL.isNon (.cmp cp a b) = false := rfl
@[simp] theorem z_v_chain : isVarE (.chain cp cp2 a b d) = none := rfl
@[simp] theorem z_q_chain : quiet (.chain cp cp2 a b d) = false := rfl
@[simp] theorem z_n_chain : PL.isNon (.chain cp cp2 a b d) = false := rfl
@[simp] theorem z_v_tup : isVarE (.tup es) = none := rfl
@[simp] theorem z_q_tup : quiet (.tup es) = false := rfl
@[simp] theorem z_n_tup : PL.isNon (.tup es) = false := rfl
@[simp] theorem z_v_dct : isVarE (.dct es es2) = none := rfl
@[simp] theorem z_q_dct : quiet (.dct es es2) = false := rfl
@[simp] theorem z_n_dct : PL.isNon (.dct es es2) = false := rfl
@[simp] theorem z_v_call : isVarE (.call n es) = none := rfl
@[simp] theorem z_q_call : quiet (.call n es) = false := rfl
@[simp] theorem z_n_call : PL.isNon (.call n es) = false := rfl
@[simp] theorem z_v_new : isVarE (.new x n es) = none := rfl
@[simp] theorem z_q_new : quiet (.new x n es) = false := rfl
@[simp] theorem z_n_new : PL.isNon (.new x n es) = false := rfl
@[simp] theorem z_v_meth : isVarE (.meth x y n a es) = none := rfl
@[simp] theorem z_q_meth : quiet (.meth x y n a es) = false := rfl
@[simp] theorem z_n_meth : PL.isNon (.meth x y n a es) = false := rfl
@[simp] theorem z_v_blt : isVarE (.blt q es) = none := rfl
@[simp] theorem z_q_blt : quiet (.blt q es) = false := rfl
@[simp] theorem z_n_blt : PL.isNon (.blt q es) = false := rfl
@[simp] theorem z_v_mth : isVarE (.mth w a es) = none := rfl
@[simp] theorem z_q_mth : quiet (.mth w a es) = false := rfl
@[simp] theorem z_n_mth : PL.isNon (.mth w a es) = false := rfl
@[simp] theorem z_v_slc : isVarE (.slc a b d) = none := rfl
@[simp] theorem z_q_slc : quiet (.slc a b d) = false := rfl
@[simp] theorem z_n_slc : PL.isNon (.slc a b d) = false := rfl
@[simp] theorem z_v_lc : isVarE (.lc a g sk es es2 sl) = none := rfl
@[simp] theorem z_q_lc : quiet (.lc a g sk es es2 sl) = false := rfl
@[simp] theorem z_n_lc : PL.isNon (.lc a g sk es es2 sl) = false := rfl
@[simp] theorem z_v_attr : isVarE (.attr a f) = none := rfl
@[simp] theorem z_q_attr : quiet (.attr a f) = quiet a := rfl
@[simp] theorem z_n_attr : PL.isNon (.attr a f) = false := rfl
@[simp] theorem z_v_idx : isVarE (.idx a b) = none := rfl
@[simp] theorem z_q_idx : quiet (.idx a b) = (quiet a && quiet b) := rfl
@[simp] theorem z_n_idx : PL.isNon (.idx a b) = false := rfl
@[simp] theorem z_v_lst0 : isVarE (.lst []) = none := rfl
@[simp] theorem z_q_lst0 : quiet (.lst []) = true := rfl
@[simp] theorem z_n_lst0 : PL.isNon (.lst []) = false := rfl
@[simp] theorem z_v_lstS : isVarE (.lst (a :: es)) = none := rfl
@[simp] theorem z_q_lstS : quiet (.lst (a :: es)) = false := rfl
@[simp] theorem z_n_lstS : PL.isNon (.lst (a :: es)) = false := rfl
@[simp] theorem z_v_neg0 : isVarE (.neg (.int i)) = none := rfl
@[simp] theorem z_q_neg0 : quiet (.neg (.int i)) = true := rfl
@[simp] theorem z_n_neg0 : PL.isNon (.neg (.int i)) = false := rfl
@[simp] theorem z_m1 : isM1 .append = true := rfl
@[simp] theorem z_m2 : isM1 .pop1 = true := rfl
@[simp] theorem z_m3 : isM1 .extend = true := rfl
@[simp] theorem z_as0 : asgSs [] = [] := rfl
variable {cm : Cm} {cs cs2 : List Cm} {n1 n2 n3 : Nat}
@[simp] theorem z_asS : asgSs (cm :: cs) = asgS cm ++ asgSs cs := rfl
@[simp] theorem z_as1 : asgS (.asg g a) = tgSl g := rfl
@[simp] theorem z_as2 : asgS (.par2 n1 n2 a b) = [n1, n2] := rfl
@[simp] theorem z_as3 : asgS (.par3 n1 n2 n3 a b d) = [n1, n2, n3] := rfl
@[simp] theorem z_as4 : asgS (.aug n1 op a) = [n1] := rfl
@[simp] theorem z_as5 : asgS (.ite a cs cs2) = asgSs cs ++ asgSs cs2 := rfl
@[simp] theorem z_as6 : asgS (.whl a cs) = asgSs cs := rfl
@[simp] theorem z_as7 : asgS (.fr g sk es cs) = tgSl g ++ asgSs cs := rfl
@[simp] theorem z_as8 : asgS (.tryAs cs x n1 y f) = n1 :: asgSs cs := rfl
@[simp] theorem z_as9 : asgS (.sub a b d) = [] := rfl
@[simp] theorem z_as10 : asgS (.ex a) = [] := rfl
@[simp] theorem z_as11 : asgS (.ret a) = [] := rfl
@[simp] theorem z_as12 : asgS .retn = [] := rfl
@[simp] theorem z_as13 : asgS (.fld a f b) = [] := rfl
@[simp] theorem z_as14 : asgS (.raise x n es) = [] := rfl
@[simp] theorem z_as15 : asgS .pass = [] := rfl
@[simp] theorem z_as16 : asgS .brk = [] := rfl
@[simp] theorem z_as17 : asgS .cont = [] := rfl
end
section
variable {n1 n2 n3 : Nat} {a b d e : Ex} {es fs : List Ex} {x y : Str} {k : Bool} {i : Int} {op : Operator} {cp cp2 : CmpOp} {q : Bl} {w : Mt} {sk : Sk} {g : Tg} {sl : List Nat} {ty : String}
@[simp] theorem z_men0 : men n1 (.var n2) = (decide (n2 = n1)) := by rw [men]
@[simp] theorem z_men1 : men n1 (.int i) = (false) := by rw [men]
@[simp] theorem z_men2 : men n1 (.bl k) = (false) := by rw [men]
@[simp] theorem z_men3 : men n1 (.non) = (false) := by rw [men]
@[simp] theorem z_men4 : men n1 (.str x) = (false) := by rw [men]
@[simp] theorem z_men5 : men n1 (.ty ty) = (false) := by rw [men]
@[simp] theorem z_men6 : men n1 (.cls x) = (false) := by rw [men]
@[simp] theorem z_men7 : men n1 (.bin op a b) = (men n1 a || men n1 b) := by rw [men]
@[simp] theorem z_men8 : men n1 (.neg a) = (men n1 a) := by rw [men]
@[simp] theorem z_men9 : men n1 (.not a) = (men n1 a) := by rw [men]
@[simp] theorem z_men10 : men n1 (.and a b) = (men n1 a || men n1 b) := by rw [men]
@[simp] theorem z_men11 : men n1 (.or a b) = (men n1 a || men n1 b) := by rw [men]
@[simp] theorem z_men12 : men n1 (.ite d a b) = (men n1 d || men n1 a || men n1 b) := by rw [men]
@[simp] theorem z_men13 : men n1 (.cmp cp a b) = (men n1 a || men n1 b) := by rw [men]
@[simp] theorem z_men14 : men n1 (.chain cp cp2 a b d) = (men n1 a || men n1 b || men n1 d) := by rw [men]
@[simp] theorem z_men15 : men n1 (.lst es) = (mens n1 es) := by rw [men]
@[simp] theorem z_men16 : men n1 (.tup es) = (mens n1 es) := by rw [men]
@[simp] theorem z_men17 : men n1 (.dct es fs) = (mens n1 es || mens n1 fs) := by rw [men]
@[simp] theorem z_men18 : men n1 (.call n2 es) = (mens n1 es) := by rw [men]
@[simp] theorem z_men19 : men n1 (.new x n2 es) = (mens n1 es) := by rw [men]
@[simp] theorem z_men20 : men n1 (.meth x y n2 a es) = (men n1 a || mens n1 es) := by rw [men]
@[simp] theorem z_men21 : men n1 (.blt q es) = (mens n1 es) := by rw [men]
@[simp] theorem z_men22 : men n1 (.mth w a es) = (men n1 a || mens n1 es) := by rw [men]
@[simp] theorem z_men23 : men n1 (.attr a x) = (men n1 a) := by rw [men]
@[simp] theorem z_men24 : men n1 (.idx a b) = (men n1 a || men n1 b) := by rw [men]
@[simp] theorem z_men25 : men n1 (.slc a b d) = (men n1 a || men n1 b || men n1 d) := by rw [men]
@[simp] theorem z_men26 : men n1 (.lc a g sk es fs sl) = (men n1 a || mens n1 es || mens n1 fs) := by rw [men]
@[simp] theorem z_mens0 : mens n1 [] = false := by unfold mens; rfl
@[simp] theorem z_mens1 : mens n1 (e :: es) = (men n1 e || mens n1 es) := by rw [mens]
def mvO (es : List Ex) : Option Nat → Bool
  | some i => !mens i es
  | none => true
@[simp] theorem z_mvO1 : mvO es (some n1) = !mens n1 es := rfl
@[simp] theorem z_mvO0 : mvO es none = true := rfl
@[simp] theorem z_mvE : mvE e es = mvO es (isVarE e) := by unfold mvE mvO; cases isVarE e <;> rfl
end
section
variable {n1 n2 n3 n4 : Nat} {a b d e : Ex} {es fs : List Ex} {x y f : Str} {op : Operator} {sk : Sk} {g : Tg} {cm : Cm} {cs cs2 : List Cm}
@[simp] theorem z_menC0 : menC n1 (.asg g a) = (men n1 a) := by rw [menC]
@[simp] theorem z_menC1 : menC n1 (.par2 n2 n3 a b) = (men n1 a || men n1 b) := by rw [menC]
@[simp] theorem z_menC2 : menC n1 (.par3 n2 n3 n4 a b d) = (men n1 a || men n1 b || men n1 d) := by rw [menC]
@[simp] theorem z_menC3 : menC n1 (.sub a b d) = (men n1 a || men n1 b || men n1 d) := by rw [menC]
@[simp] theorem z_menC4 : menC n1 (.fld a x b) = (men n1 a || men n1 b) := by rw [menC]
@[simp] theorem z_menC5 : menC n1 (.aug n2 op a) = (decide (n2 = n1) || men n1 a) := by rw [menC]
@[simp] theorem z_menC6 : menC n1 (.ex a) = (men n1 a) := by rw [menC]
@[simp] theorem z_menC7 : menC n1 (.ret a) = (men n1 a) := by rw [menC]
@[simp] theorem z_menC8 : menC n1 (.retn) = (false) := by rw [menC]
@[simp] theorem z_menC9 : menC n1 (.ite a cs cs2) = (men n1 a || menCs n1 cs || menCs n1 cs2) := by rw [menC]
@[simp] theorem z_menC10 : menC n1 (.whl a cs) = (men n1 a || menCs n1 cs) := by rw [menC]
@[simp] theorem z_menC11 : menC n1 (.fr g sk es cs) = (mens n1 es || menCs n1 cs) := by rw [menC]
@[simp] theorem z_menC12 : menC n1 (.raise x n2 es) = (mens n1 es) := by rw [menC]
@[simp] theorem z_menC13 : menC n1 (.tryAs cs x n2 y f) = (menCs n1 cs) := by rw [menC]
@[simp] theorem z_menC14 : menC n1 (.pass) = (false) := by rw [menC]
@[simp] theorem z_menC15 : menC n1 (.brk) = (false) := by rw [menC]
@[simp] theorem z_menC16 : menC n1 (.cont) = (false) := by rw [menC]
@[simp] theorem z_menCs0 : menCs n1 [] = false := by rw [menCs]
@[simp] theorem z_menCs1 : menCs n1 (cm :: cs) = (menC n1 cm || menCs n1 cs) := by rw [menCs]
end
/-! ### loops by invariants -/
section
variable {p : Px} {R : RF} {XI : Nat → Option (List Str)} {g : Tg} {cs : List Cm}
/-- a turn that goes on, with N behind it -/
def Turn (p : Px) (R : RF) (XI : Nat → Option (List Str)) (g : Tg) (cs : List Cm) (t : T) (ρ : Ev) (N : Ev → Prop) : Prop := ∃ ρ1, bindF g t ρ = some ρ1 ∧ ∃ ρ2, (svs p R XI cs ρ1 = .nx ρ2 ∨ svs p R XI cs ρ1 = .ct ρ2) ∧ N ρ2
/-- .. or returns, breaks, raises: D -/
def TurnD (p : Px) (R : RF) (XI : Nat → Option (List Str)) (g : Tg) (cs : List Cm) (t : T) (ρ : Ev) (N : Ev → Prop) (D : Fw → Prop) : Prop := ∃ ρ1, bindF g t ρ = some ρ1 ∧ ((∃ ρ2, (svs p R XI cs ρ1 = .nx ρ2 ∨ svs p R XI cs ρ1 = .ct ρ2) ∧ N ρ2) ∨ (∃ u ρ2, svs p R XI cs ρ1 = .rt u ρ2 ∧ D (.rt u ρ2)) ∨ (∃ ρ2, svs p R XI cs ρ1 = .bk ρ2 ∧ D (.nx ρ2)) ∨ ∃ c e ρ2, svs p R XI cs ρ1 = .xc c e ρ2 ∧ D (.xc c e ρ2))
theorem fvs_D {α : Type} {f : α → T} {I : List α → Ev → Prop} {D : Fw → Prop} (st : ∀ t r ρ, I (t :: r) ρ → TurnD p R XI g cs (f t) ρ (I r) D) (fin : ∀ ρ, I [] ρ → D (.nx ρ)) : ∀ (its : List α) (ρ : Ev), I its ρ → D (fvs p R XI g cs (its.map f) ρ)
  | [], ρ, h => fin ρ h
  | t :: r, ρ, h => by
    obtain ⟨ρ1, e1, h1⟩ := st t r ρ h
    rw [List.map_cons, fvs_cons, e1, kTb_some]
    rcases h1 with ⟨ρ2, e2, h2⟩ | ⟨u, ρ2, e2, h2⟩ | ⟨ρ2, e2, h2⟩ | ⟨c, e, ρ2, e2, h2⟩
    · have := fvs_D st fin r ρ2 h2
      rcases e2 with e2 | e2 <;> rw [e2]
      · rw [kTn_nx]; exact this
      · rw [kTn_ct]; exact this
    · rw [e2, kTn_rt]; exact h2
    · rw [e2, kTn_bk]; exact h2
    · rw [e2, kTn_xc]; exact h2
/-- a loop that goes through -/
theorem fvs_map {α : Type} {f : α → T} {I : List α → Ev → Prop} (st : ∀ t r ρ, I (t :: r) ρ → Turn p R XI g cs (f t) ρ (I r)) (its : List α) (ρ : Ev) (h : I its ρ) : ∃ ρ', fvs p R XI g cs (its.map f) ρ = .nx ρ' ∧ I [] ρ' :=
  fvs_D (D := fun o => ∃ ρ', o = .nx ρ' ∧ I [] ρ') (fun t r ρ h => by
    obtain ⟨ρ1, e1, h1⟩ := st t r ρ h
    exact ⟨ρ1, e1, .inl h1⟩) (fun ρ h => ⟨ρ, rfl, h⟩) its ρ h
theorem turn_of {t : T} {ρ ρ1 ρ2 : Ev} {N : Ev → Prop} (e1 : bindF g t ρ = some ρ1) (h : N ρ2) (e2 : svs p R XI cs ρ1 = .nx ρ2) : Turn p R XI g cs t ρ N := ⟨ρ1, e1, ρ2, .inl e2, h⟩
/-- a comprehension over a mapped list -/
theorem lcs_map {α : Type} {f : α → T} {own : List Nat} {css : List Ex} {el : Ex} (B : Nat) (keep : α → Option T) (I : Ev → Prop)
    (st : ∀ a acc ρ, acc.length < B → I ρ → ∃ ρ', lcSt p R g own css el (f a) acc ρ = .ok (acc ++ (keep a).toList) ρ' ∧ I ρ') : ∀ (l : List α) (acc : List T) (ρ : Ev), acc.length + l.length ≤ B → I ρ → ∃ ρ', lcs p R g own css el (l.map f) acc ρ = .ok (acc ++ l.filterMap keep) ρ' ∧ I ρ'
  | [], acc, ρ, _, h => ⟨ρ, by simp [lcs_nil], h⟩
  | a :: l, acc, ρ, hl, h => by
    simp only [List.length_cons] at hl
    obtain ⟨ρ1, e1, h1⟩ := st a acc ρ (by omega) h
    obtain ⟨ρ2, e2, h2⟩ := lcs_map B keep I st l (acc ++ (keep a).toList) ρ1 (by
      rw [List.length_append]
      cases keep a <;> simp <;> omega) h1
    refine ⟨ρ2, ?_, h2⟩
    rw [List.map_cons, lcs_cons, e1, kZ_ok, e2]
    cases e : keep a with
    | none => simp [e]
    | some t => simp [e]
/-- .. with a word on the items -/
theorem lcs_mem {α : Type} {f : α → T} {own : List Nat} {css : List Ex} {el : Ex} {keep : α → Option T} {I : Ev → Prop} {M : α → Prop} (B : Nat)
    (st : ∀ a acc ρ, acc.length < B → I ρ → M a → ∃ ρ', lcSt p R g own css el (f a) acc ρ = .ok (acc ++ (keep a).toList) ρ' ∧ I ρ') : ∀ (l : List α) (acc : List T) (ρ : Ev), acc.length + l.length ≤ B → I ρ → (∀ a ∈ l, M a) → ∃ ρ', lcs p R g own css el (l.map f) acc ρ = .ok (acc ++ l.filterMap keep) ρ' ∧ I ρ'
  | [], acc, ρ, _, h, _ => ⟨ρ, by simp [lcs_nil], h⟩
  | a :: l, acc, ρ, hl, h, hm => by
    simp only [List.length_cons] at hl
    obtain ⟨ρ1, e1, h1⟩ := st a acc ρ (by omega) h (hm a List.mem_cons_self)
    obtain ⟨ρ2, e2, h2⟩ := lcs_mem B st l (acc ++ (keep a).toList) ρ1 (by
      rw [List.length_append]
      cases keep a <;> simp <;> omega) h1 fun b hb => hm b (List.mem_cons_of_mem _ hb)
    refine ⟨ρ2, ?_, h2⟩
    rw [List.map_cons, lcs_cons, e1, kZ_ok, e2]
    cases e : keep a with
    | none => simp [e]
    | some t => simp [e]
theorem fm_if {α β : Type} {c : α → Bool} {f : α → β} : ∀ {l : List α}, (l.filterMap fun y => if c y = true then some (f y) else none) = (l.filter c).map f
  | [] => rfl
  | a :: l => by
    cases e : c a <;> simp [e, fm_if (c := c) (f := f) (l := l)]
theorem fm_some {α β : Type} {f : α → β} : ∀ {l : List α}, (l.filterMap fun y => some (f y)) = l.map f
  | [] => rfl
  | a :: l => by simp
end
end PL
set_option Elab.async false
set_option linter.all false
set_option maxRecDepth 100000
set_option maxHeartbeats 4000000
/-! The laws' draws. -/
namespace PL
open PySem PySem.Spec PyProof.Rows L2
local macro_rules
  | `(tactic| simp_arith [$as,*]) => `(tactic| simp -implicitDefEqProofs (disch := omega) [$as,*])
def pickC : Ex := .and (.cmp .Eq (.idx (.var 0) (.int 1)) (.int 0)) (.cmp .NotEq (.idx (.var 0) (.int 0)) (.lst []))
def pickB : List Cm := [
    .asg (.one 3) (.blt .abs [.mth .pop1 (.idx (.var 0) (.int 0)) [.int 0]]),
    .sub (.var 0) (.int 3) (.bin .Mod (.blt .int [.bin .Add (.bin .Add (.bin .Mult (.idx (.var 0) (.int 3)) (.int 6151)) (.var 3)) (.int 5)]) (.int 2147483647)),
    .sub (.var 0) (.int 1) (.ite (.cmp .GtE (.var 3) (.bin .Pow (.int 10) (.int 18))) (.var 3) (.int 0))]
def fPick : Fd := ⟨["state", "many", "mixed", "cell", "digit"], 2, [
  .sub (.var 0) (.int 2) (.bin .Add (.idx (.var 0) (.int 2)) (.int 1)),
  .whl pickC pickB,
  .ite (.cmp .Gt (.idx (.var 0) (.int 1)) (.int 0)) [
    .asg (.one 4) (.bin .Mod (.blt .int [.idx (.var 0) (.int 1)]) (.var 1)),
    .sub (.var 0) (.int 1) (.bin .FloorDiv (.idx (.var 0) (.int 1)) (.var 1)),
    .ret (.var 4)] [],
  .asg (.one 2) (.bin .Mod (.blt .int [.bin .Pow (.bin .Add (.bin .Add (.idx (.var 0) (.int 3)) (.bin .Mult (.int 7907) (.idx (.var 0) (.int 2)))) (.int 104723)) (.int 5)]) (.int 2147483629)),
  .ret (.bin .Mod (.bin .Mod (.blt .int [.bin .Pow (.bin .Add (.bin .Add (.bin .Mult (.var 2) (.int 48271)) (.bin .Mult (.int 30011) (.idx (.var 0) (.int 2)))) (.int 31)) (.int 3)]) (.int 1000000007)) (.var 1))]⟩
def stT (script : List Int) (a c m : Int) : T := .nd .lst true [.nd .lst true (script.map .i), .i a, .i c, .i m]
/-- the draws' state: the script that is left, the cell that is spent, the count (c at most), the mix -/
def St (c : Nat) (s : T) : Prop := ∃ script a k m, s = stT script a k m ∧ 0 ≤ a ∧ 0 ≤ k ∧ k ≤ c ∧ 0 ≤ m ∧ m < 2147483647
@[simp] theorem eq_ints {o o2 : Bool} (ns : List Int) : eqT (.nd .lst o (ns.map .i)) (.nd .lst o2 []) = some ns.isEmpty := eqT_ints ns
section
variable {p : Px} {Tb : List Fd} {R : RF} {XI : Nat → Option (List Str)}
theorem pick_whl {k many : Int} {P : Fw → Prop} (q : ∀ script a m t3, 0 ≤ a → 0 ≤ m → m < 2147483647 → P (.nx [stT script a k m, .i many, .un, t3, .un])) : ∀ (script : List Int) (a m : Int) (t3 : T), 0 ≤ a → 0 ≤ m → m < 2147483647 → P (whs p R XI pickC pickB [stT script a k m, .i many, .un, t3, .un]) := by
  intro script
  induction script with
  | nil =>
    intro a m t3 ha hm hm2
    rw [whs_eq]
    have := q [] a m t3 ha hm hm2
    by_cases e : a = 0
    · simpa (disch := omega) [pickC, stT, e, eqT_nil] using this
    · simpa (disch := omega) [pickC, stT, e, eqT_nil] using this
  | cons z r ih =>
    intro a m t3 ha hm hm2
    rw [whs_eq]
    by_cases e : a = 0
    · have hz : 0 ≤ (if z < 0 then -z else z) := by split <;> omega
      have hq : eqT (.nd .lst true (.i z :: r.map .i)) (.nd .lst true []) = some false := eqT_ints (z :: r)
      simp_arith [pickC, pickB, stT, e, hq]
      revert hz
      generalize (if z < 0 then -z else z) = cell
      intro hz
      by_cases e2 : 1000000000000000000 ≤ cell
      · have := ih cell ((m * 6151 + cell + 5) % 2147483647) (.i cell) hz (by omega) (by omega)
        simpa (disch := omega) [e2, pickC, pickB, stT] using this
      · have := ih 0 ((m * 6151 + cell + 5) % 2147483647) (.i cell) (by omega) (by omega) (by omega)
        simpa (disch := omega) [e2, pickC, pickB, stT] using this
    · simpa (disch := omega) [pickC, stT, e] using q (z :: r) a m t3 ha hm hm2
theorem pick_P {n i c : Nat} {many : Int} {s : T} {P : Rc → Prop} (h : Tb[i]? = some fPick) (hn : 1 ≤ n) (hs : St c s) (hc : c < 1000000000000) (h1 : 1 ≤ many) (h2 : many < 2 ^ 30) (q : ∀ d s', 0 ≤ d → d < many → St (c + 1) s' → P (.ok (.i d) [s', .i many])) :
    P (run p Tb n i [s, .i many]) := by
  obtain ⟨script, a, k, m, rfl, ha, hk, hkc, hm, hm2⟩ := hs
  rw [run_at [3, 4, 2] h hn rfl rfl]
  simp_arith [stT]
  refine pick_whl (k := k + 1) (P := fun o => P (kOut 2 [3, 4, 2] (kSq p _ _ _ o))) (fun script a m t3 ha hm hm2 => ?_) script a m .un ha hm hm2
  by_cases e : 0 < a
  · simp_arith [stT, e]
    exact q _ (stT script (a / many) (k + 1) m) (Int.emod_nonneg _ (by omega)) (Int.emod_lt_of_pos _ (by omega)) ⟨script, _, _, _, rfl, Int.ediv_nonneg ha (by omega), by omega, by omega, hm, hm2⟩
  · simp_arith [stT, e]
    exact q _ (stT script a (k + 1) m) (Int.emod_nonneg _ (by omega)) (Int.emod_lt_of_pos _ (by omega)) ⟨script, _, _, _, rfl, ha, by omega, by omega, hm, hm2⟩
theorem pick_run {n i c : Nat} {many : Int} {s : T} (h : Tb[i]? = some fPick) (hs : St c s) (hn : 1 ≤ n := by omega) (hc : c < 1000000000000 := by omega) (h1 : 1 ≤ many := by omega) (h2 : many < 2 ^ 30 := by omega) :
    ∃ d s', run p Tb n i [s, .i many] = .ok (.i d) [s', .i many] ∧ 0 ≤ d ∧ d < many ∧ St (c + 1) s' :=
  pick_P (P := fun r => ∃ d s', r = .ok (.i d) [s', .i many] ∧ 0 ≤ d ∧ d < many ∧ St (c + 1) s') h hn hs hc h1 h2 fun d s' a b e => ⟨d, s', rfl, a, b, e⟩
end
theorem St.un {c : Nat} {s : T} (h : St c s) : isUn s = false := by
  obtain ⟨_, _, _, _, rfl, _⟩ := h
  rfl
theorem St.ow {c : Nat} {s : T} (h : St c s) : PL.ow s = true := by
  obtain ⟨_, _, _, _, rfl, _⟩ := h
  rfl
theorem St.up {c d : Nat} {s : T} (h : St c s) (hd : c ≤ d) : St d s := by
  obtain ⟨a, b, k, m, e, h1, h2, h3, h4⟩ := h
  exact ⟨a, b, k, m, e, h1, h2, by omega, h4⟩
def fStart : Fd := ⟨["script"], 1, [
  .ret (.lst [.blt .list [.var 0], .int 0, .int 0, .int 29])]⟩
def fBetween (ip : Nat) : Fd := ⟨["state", "low", "high"], 3, [
  .ret (.bin .Add (.var 1) (.call ip [.var 0, .bin .Add (.blt .max [.bin .Sub (.var 2) (.var 1), .int 0]) (.int 1)]))]⟩
def fOne (ip : Nat) : Fd := ⟨["state", "things"], 2, [
  .ret (.idx (.var 1) (.call ip [.var 0, .blt .len [.var 1]]))]⟩
theorem atI_mem {α : Type} {ts : List α} {d : Int} (h1 : 0 ≤ d) (h2 : d < ts.length) : ∃ t ∈ ts, atI ts d = some t := by
  have hd : d.toNat < ts.length := by omega
  refine ⟨ts[d.toNat], List.getElem_mem hd, ?_⟩
  unfold atI ixN
  rw [if_pos h1, if_pos h2]
  exact List.getElem?_eq_getElem hd
theorem seqIx {d : Int} {n : Nat} (h1 : 0 ≤ d) (h2 : d < n) : seqIndex? d n = some d.toNat := by
  unfold seqIndex?
  have e : ¬ d < 0 := by omega
  simp [e, h1, h2]
section
variable {p : Px} {Tb : List Fd} {n i ip c : Nat} {s : T}
theorem start_run {ns : List Int} (h : Tb[i]? = some fStart) (hn : 1 ≤ n := by omega) : ∃ s, run p Tb n i [.scr ns] = .ok s [.scr ns] ∧ St 0 s := by
  rw [run_at [] h hn rfl rfl]
  simp_arith []
  exact ⟨ns, 0, 0, 29, rfl, by decide, by decide, by decide, by decide, by decide⟩
theorem between_run {lo hi : Int} (h : Tb[i]? = some (fBetween ip)) (hp : Tb[ip]? = some fPick) (hs : St c s) (hn : 2 ≤ n := by omega) (hc : c < 1000000000000 := by omega) (h2 : hi - lo < 2 ^ 29 := by omega) :
    ∃ d s', run p Tb n i [s, .i lo, .i hi] = .ok (.i (lo + d)) [s', .i lo, .i hi] ∧ 0 ≤ d ∧ (d ≤ hi - lo ∨ d = 0) ∧ St (c + 1) s' := by
  obtain ⟨d, s1, e1, a1, b1, hs1⟩ := pick_run (p := p) (n := n - 1) (many := (if hi - lo < 0 then 0 else hi - lo) + 1) hp hs (h1 := by split <;> omega) (h2 := by split <;> omega)
  refine ⟨d, s1, ?_, a1, by split at b1 <;> omega, hs1⟩
  rw [run_at [] h (by omega) rfl rfl]
  simp_arith [e1, hs.ow, hs.un, hs1.un]
theorem one_run {o : Bool} {ts : List T} (h : Tb[i]? = some (fOne ip)) (hp : Tb[ip]? = some fPick) (hs : St c s) (hu : ∀ t ∈ ts, isUn t = false ∧ ow t = false) (hn : 2 ≤ n := by omega) (hc : c < 1000000000000 := by omega) (h1 : 1 ≤ ts.length := by (first | omega | (simp; omega))) (h2 : ts.length < 2 ^ 30 := by (first | omega | (simp; omega))) :
    ∃ t s', run p Tb n i [s, .nd .lst o ts] = .ok t [s', .nd .lst o ts] ∧ t ∈ ts ∧ St (c + 1) s' := by
  obtain ⟨d, s1, e1, a1, b1, hs1⟩ := pick_run (p := p) (n := n - 1) (many := ts.length) hp hs
  obtain ⟨t, ht, e2⟩ := atI_mem a1 b1
  refine ⟨t, s1, ?_, ht, hs1⟩
  rw [run_at [] h (by omega) rfl rfl]
  simp_arith [e1, hs.ow, hs.un, hs1.un, e2, (hu t ht).1, (hu t ht).2]
end
end PL
set_option Elab.async false
set_option linter.all false
set_option maxRecDepth 100000
set_option maxHeartbeats 4000000
namespace PL
open PySem PySem.Spec PyProof.Rows L2
local macro_rules
  | `(tactic| simp_arith [$as,*]) => `(tactic| simp -implicitDefEqProofs (disch := omega) [$as,*])
def mixedB (ip : Nat) : List Cm := [.ex (.mth .append (.var 4) [.mth .pop1 (.var 3) [.call ip [.var 0, .blt .len [.var 3]]]])]
def fMixed (ip : Nat) : Fd := ⟨["state", "things", "k", "left", "found"], 2, [
  .par2 3 4 (.blt .list [.var 1]) (.lst []),
  .fr (.one 2) .rng1 [.blt .len [.var 3]] (mixedB ip),
  .ret (.var 4)]⟩
section
variable {p : Px} {Tb : List Fd} {n i ip c : Nat} {s : T}
theorem mixed_run {o : Bool} {ts : List T} (h : Tb[i]? = some (fMixed ip)) (hp : Tb[ip]? = some fPick) (hs : St c s) (hu : ows ts = false) (hn : 2 ≤ n := by omega) (hc : c + ts.length < 1000000000000 := by omega) (h2 : ts.length ≤ 1000 := by (first | omega | (simp; omega))) :
    ∃ fs s', run p Tb n i [s, .nd .lst o ts] = .ok (.nd .lst true fs) [s', .nd .lst o ts] ∧ fs.Perm ts ∧ St (c + ts.length) s' := by
  let I : List Nat → Ev → Prop := fun its ρ => ∃ s fs ls t2, ρ = [s, .nd .lst o ts, t2, .nd .lst true ls, .nd .lst true fs] ∧ St (c + (ts.length - its.length)) s ∧ its.length = ls.length ∧ ls.length ≤ ts.length ∧ (ls ++ fs).Perm ts
  have st : ∀ (t : Nat) (r : List Nat) (ρ : Ev), I (t :: r) ρ → Turn p (run p Tb (n - 1)) (XIat Tb (n - 1)) (.one 2) (mixedB ip) (.i t) ρ (I r) := by
    rintro t r ρ ⟨s, fs, ls, t2, rfl, h1, h3, h4, h5⟩
    simp only [List.length_cons] at h1 h3
    obtain ⟨d, s1, e1, d1, d2, hs1⟩ := pick_run (p := p) (n := n - 1) (many := ls.length) hp h1
    have hd : d.toNat < ls.length := by omega
    have hlen : (ls ++ fs).length = ts.length := h5.length_eq
    simp at hlen
    refine turn_of rfl ⟨s1, fs ++ [ls[d.toNat]], ls.eraseIdx d.toNat, .i t, rfl, hs1.up (by omega), ?_, ?_, ?_⟩ ?_
    · rw [List.length_eraseIdx_of_lt hd]; omega
    · rw [List.length_eraseIdx_of_lt hd]; omega
    · refine List.Perm.trans ?_ h5
      refine List.Perm.trans ?_ ((perm_erase hd).symm.append_right fs)
      rw [← List.append_assoc]
      exact (List.perm_append_comm (l₁ := ls.eraseIdx d.toNat ++ fs) (l₂ := [ls[d.toNat]]))
    · simp_arith [mixedB, h1.un, h1.ow, e1, hs1.un, seqIx d1 d2, List.getElem?_eq_getElem hd]
  obtain ⟨ρ', e, s1, fs, ls, t2, rfl, h1, h3, h4, h5⟩ := fvs_map st (List.range ts.length) _ ⟨s, [], ts, .un, rfl, by simpa using hs, by simp⟩
  have : ls = [] := List.length_eq_zero_iff.mp h3.symm
  subst this
  refine ⟨fs, s1, ?_, by simpa using h5, by simpa using h1⟩
  rw [run_at [3, 4, 2] h (by omega) rfl rfl]
  simp_arith [hs.un, hs.ow, hu, rngT, show asgSs (mixedB ip) = [] from rfl]
  rw [e]
  simp
end
end PL
set_option Elab.async false
set_option linter.all false
set_option maxRecDepth 100000
set_option maxHeartbeats 4000000
namespace PL
open PySem PySem.Spec PyProof.Rows L2
local macro_rules
  | `(tactic| simp_arith [$as,*]) => `(tactic| simp -implicitDefEqProofs (disch := omega) [$as,*])
def LET : Str := "abcdefghijklmnopqrstuvwxyz"
def FIG : Str := "0123456789"
def isLet (c : Nat) : Bool := decide (97 ≤ c ∧ c ≤ 122)
def isFig (c : Nat) : Bool := decide (48 ≤ c ∧ c ≤ 57)
/-- an event's name -/
def IsName (x : Str) : Prop := ∃ c0 r, x.cps.toList = c0 :: r ∧ isLet c0 = true ∧ (∀ c ∈ r, (isLet c || isFig c) = true) ∧ r.length ≤ 11
theorem len_cps {x : Str} : x.length = x.cps.toList.length := by
  show x.cps.size = _
  simp
theorem app_cps {x y : Str} : (x ++ y).cps.toList = x.cps.toList ++ y.cps.toList := by
  show (x.cps ++ y.cps).toList = _
  simp
@[simp] theorem idx_str {z : Str} {d : Int} : idxT (.s z) (.i d) = gd (z.length ≤ 16777216) ((atI z.cps.toList d).map fun c => T.s ⟨#[c]⟩) := by
  rw [ix_s]
  unfold gd
  by_cases h : z.length ≤ 16777216
  · rw [if_pos (sz h), if_pos h]
  · rw [if_neg (by rw [sizeLine_eq]; exact h), if_neg h]
theorem idx_s {z : Str} {m : Nat} {d : Int} (hz : z.cps.toList.length = m) (h1 : 0 ≤ d) (h2 : d < m) (hm : m < 100) : ∃ c, c ∈ z.cps.toList ∧ idxT (.s z) (.i d) = some (.s ⟨#[c]⟩) := by
  obtain ⟨c, hc, e⟩ := atI_mem (ts := z.cps.toList) h1 (by rw [hz]; exact h2)
  refine ⟨c, hc, ?_⟩
  rw [idx_str, e, gd_t (by rw [len_cps, hz]; omega)] <;> rfl
def nameB1 (ip : Nat) : List Cm := [.asg (.one 2) (.bin .Add (.var 2) (.idx (.str "ab01") (.call ip [.var 0, .int 4])))]
def nameB2 (ip : Nat) : List Cm := [.asg (.one 2) (.bin .Add (.var 2) (.idx (.str "0123456789abcdefghijklmnopqrstuvwxyz") (.call ip [.var 0, .int 36])))]
def fName (ip : Nat) : Fd := ⟨["state", "few", "word", "k"], 2, [
  .ite (.var 1) [
    .asg (.one 2) (.idx (.str "ab") (.call ip [.var 0, .int 2])),
    .fr (.one 3) .rng1 [.call ip [.var 0, .int 3]] (nameB1 ip),
    .ret (.var 2)] [],
  .asg (.one 2) (.idx (.str "abcdefghijklmnopqrstuvwxyz") (.call ip [.var 0, .int 26])),
  .fr (.one 3) .rng1 [.call ip [.var 0, .int 12]] (nameB2 ip),
  .ret (.var 2)]⟩
theorem mem_ab {c : Nat} (h : c ∈ (("ab" : Str)).cps.toList) : isLet c = true := by
  revert h; revert c; decide +kernel
theorem mem_az {c : Nat} (h : c ∈ (("abcdefghijklmnopqrstuvwxyz" : Str)).cps.toList) : isLet c = true := by
  revert h; revert c; decide +kernel
/-- .. of m + 1 signs at most -/
def IsNm (m : Nat) (x : Str) : Prop := ∃ c0 r, x.cps.toList = c0 :: r ∧ isLet c0 = true ∧ (∀ c ∈ r, (isLet c || isFig c) = true) ∧ r.length ≤ m
theorem IsNm.name {m : Nat} {x : Str} (h : IsNm m x) (hm : m ≤ 11) : IsName x := by
  obtain ⟨a, b, h1, h2, h3, h4⟩ := h
  exact ⟨a, b, h1, h2, h3, by omega⟩
section
variable {p : Px} {Tb : List Fd} {n i ip c : Nat} {s : T}
theorem grow_run {z : Str} {m : Nat} {mi : Int} {few : T} {XI : Nat → Option (List Str)} (hmi : mi = m) (hp : Tb[ip]? = some fPick) (hm : z.cps.toList.length = m) (hall : ∀ c ∈ z.cps.toList, (isLet c || isFig c) = true) {k0 b : Nat} (hn : 1 ≤ n) (h1 : 1 ≤ m) (h2 : m < 100) (hb : b + k0 < 1000000000000) (hk : k0 ≤ 11)
    {s0 : T} {x0 : Str} {t0 : T} (hs : St b s0) (hx : IsNm 0 x0) : ∃ s x t3, fvs p (run p Tb n) XI (.one 3) [.asg (.one 2) (.bin .Add (.var 2) (.idx (.str z) (.call ip [.var 0, .int mi])))] (rngT k0) [s0, few, .s x0, t0] = .nx [s, few, .s x, t3] ∧ St (b + k0) s ∧ IsName x := by
  subst hmi
  let I : List Nat → Ev → Prop := fun its ρ => ∃ j s x t3, ρ = [s, few, .s x, t3] ∧ its.length + j = k0 ∧ St (b + j) s ∧ IsNm j x
  have st : ∀ (t : Nat) (r : List Nat) (ρ : Ev), I (t :: r) ρ → Turn p (run p Tb n) XI (.one 3) [.asg (.one 2) (.bin .Add (.var 2) (.idx (.str z) (.call ip [.var 0, .int m])))] (.i t) ρ (I r) := by
    rintro t r ρ ⟨j, s, x, t3, rfl, hj, hs, hx⟩
    simp only [List.length_cons] at hj
    obtain ⟨c0, q, e1, e2, e3, e4⟩ := hx
    obtain ⟨d, s', e, d1, d2, hs'⟩ := pick_run (p := p) (n := n) (many := m) hp hs
    obtain ⟨c1, hc1, e5⟩ := idx_s hm d1 d2 h2
    refine turn_of rfl ⟨j + 1, s', x ++ ⟨#[c1]⟩, .i t, rfl, by omega, hs'.up (by omega), c0, q ++ [c1], ?_, e2, ?_, by simp; omega⟩ ?_
    · rw [app_cps, e1] <;> rfl
    · intro c hc
      rcases List.mem_append.mp hc with h | h
      · exact e3 c h
      · rw [List.mem_singleton.mp h]
        exact hall c1 hc1
    · have hl : x.length + (⟨#[c1]⟩ : Str).length ≤ 16777216 := by
        rw [len_cps, len_cps, e1]
        simp
        omega
      simp_arith [hs.un, hs.ow, e, hs'.un, e5, -idx_str, hl]
  obtain ⟨ρ', e, j, s, x, t3, rfl, hj, h3, h4⟩ := fvs_map st (List.range k0) _ ⟨0, s0, x0, t0, rfl, by simp, by simpa using hs, hx⟩
  simp at hj
  subst hj
  exact ⟨s, x, t3, e, h3, h4.name hk⟩
theorem name_run {few : Bool} (h : Tb[i]? = some (fName ip)) (hp : Tb[ip]? = some fPick) (hs : St c s) (hn : 2 ≤ n := by omega) (hc : c + 20 < 1000000000000 := by omega) : ∃ x s', run p Tb n i [s, .b few] = .ok (.s x) [s', .b few] ∧ IsName x ∧ St (c + 20) s' := by
  cases few with
  | true =>
    obtain ⟨d, s1, e1, d1, d2, hs1⟩ := pick_run (p := p) (n := n - 1) (many := 2) hp hs
    obtain ⟨c1, hc1, e5⟩ := idx_s (z := "ab") (m := 2) (by decide +kernel) d1 d2 (by omega)
    obtain ⟨d', s2, e2, d3, d4, hs2⟩ := pick_run (p := p) (n := n - 1) (many := 3) hp hs1
    obtain ⟨s3, x, t3, e3, h3, h4⟩ := grow_run (p := p) (n := n - 1) (mi := 4) (XI := XIat Tb (n - 1)) (z := "ab01") (m := 4) (few := .b true) (k0 := d'.toNat) (t0 := .un) rfl hp (by decide +kernel) (by decide +kernel) (by omega) (by omega) (by omega) (by omega) (by omega) hs2 (x0 := ⟨#[c1]⟩) ⟨c1, [], rfl, mem_ab hc1, by simp, by simp⟩
    refine ⟨x, s3, ?_, h4, h3.up (by omega)⟩
    rw [run_at [2, 3, 2, 2, 3, 2] h (by omega) rfl rfl]
    simp_arith [hs.un, hs.ow, e1, hs1.un, hs1.ow, e2, e5, -idx_str, hs2.un, nameB1, e3]
  | false =>
    obtain ⟨d, s1, e1, d1, d2, hs1⟩ := pick_run (p := p) (n := n - 1) (many := 26) hp hs
    obtain ⟨c1, hc1, e5⟩ := idx_s (z := "abcdefghijklmnopqrstuvwxyz") (m := 26) (by decide +kernel) d1 d2 (by omega)
    obtain ⟨d', s2, e2, d3, d4, hs2⟩ := pick_run (p := p) (n := n - 1) (many := 12) hp hs1
    obtain ⟨s3, x, t3, e3, h3, h4⟩ := grow_run (p := p) (n := n - 1) (mi := 36) (XI := XIat Tb (n - 1)) (z := "0123456789abcdefghijklmnopqrstuvwxyz") (m := 36) (few := .b false) (k0 := d'.toNat) (t0 := .un) rfl hp (by decide +kernel) (by decide +kernel) (by omega) (by omega) (by omega) (by omega) (by omega) hs2 (x0 := ⟨#[c1]⟩) ⟨c1, [], rfl, mem_az hc1, by simp, by simp⟩
    refine ⟨x, s3, ?_, h4, h3.up (by omega)⟩
    rw [run_at [2, 3, 2, 2, 3, 2] h (by omega) rfl rfl]
    simp_arith [hs.un, hs.ow, e1, hs1.un, hs1.ow, e2, e5, -idx_str, hs2.un, nameB2, e3]
end
end PL
set_option Elab.async false
set_option linter.all false
set_option maxRecDepth 100000
set_option maxHeartbeats 4000000
namespace PL
open PySem PySem.Spec PyProof.Rows L2
local macro_rules
  | `(tactic| simp_arith [$as,*]) => `(tactic| simp -implicitDefEqProofs (disch := omega) [$as,*])
def isNameB (x : Str) : Bool := match x.cps.toList with
  | [] => false
  | c0 :: r => isLet c0 && (r.all fun c => isLet c || isFig c) && decide (r.length ≤ 11)
theorem isName_of {x : Str} (h : isNameB x = true) : IsName x := by
  unfold isNameB at h
  split at h
  · cases h
  · rename_i c0 r e
    simp only [Bool.and_eq_true, List.all_eq_true, decide_eq_true_eq] at h
    exact ⟨c0, r, e, h.1.1, h.1.2, h.2⟩
theorem IsName.ok {x : Str} (h : IsName x) : PyData.strOk x = true := by
  obtain ⟨c0, r, e, h1, h2, h3⟩ := h
  unfold PyData.strOk
  rw [← Array.all_toList, e]
  simp only [List.all_cons, Bool.and_eq_true, List.all_eq_true, decide_eq_true_eq]
  unfold isLet at h1
  have h1 := of_decide_eq_true h1
  refine ⟨by omega, fun c hc => ?_⟩
  have := h2 c hc
  unfold isLet isFig at this
  simp only [Bool.or_eq_true, decide_eq_true_eq] at this
  omega
theorem IsName.len {x : Str} (h : IsName x) : 1 ≤ x.length ∧ x.length ≤ 12 := by
  obtain ⟨c0, r, e, h1, h2, h3⟩ := h
  rw [len_cps, e, List.length_cons]
  omega
theorem inT_strs {x : Str} {xs : List Str} {o : Bool} (hx : PyData.strOk x = true) (hs : ∀ y ∈ xs, PyData.strOk y = true) : inT (.s x) (.nd .lst o (xs.map .s)) = some (decide (x ∈ xs)) := by
  unfold inT
  have e1 : pdOf (.s x) = some (.str x) := rfl
  have s : SeqAt.shaped (.list (xs.map .str)) = true := shaped_list (fun d hd => by
    obtain ⟨y, hy, rfl⟩ := List.mem_map.mp hd
    simp only [PyData.canLay0]
    exact hs y hy) (fun d hd => by
    obtain ⟨y, hy, rfl⟩ := List.mem_map.mp hd
    simp [PyData.depth])
  dsimp only
  rw [e1, pds_map (g := PyData.str) fun _ => rfl]
  show (if (SeqAt.shaped (.str x) && SeqAt.shaped (.list (xs.map .str))) = true then some ((xs.map .str).any fun z => PyData.eqv z (.str x)) else none) = _
  rw [shaped_str hx, s, Bool.and_self, if_pos rfl, List.any_map]
  congr 1
  rw [Bool.eq_iff_iff]
  simp [List.any_eq_true, PyData.eqv]
def gen (k : Nat) : Str := ⟨#[(("qxyz" : Str)).cps.toList.getD (k % 4) 0]⟩ ++ (toString ((k : Nat) : Int) : Str)
theorem gen_name : ∀ k, k < 300 → isNameB (gen k) = true := by decide +kernel
theorem gen_nodup : ((List.range 20).map gen).Nodup := by decide +kernel
theorem sub_len {α : Type} [DecidableEq α] : ∀ {a b : List α}, a.Nodup → (∀ x ∈ a, x ∈ b) → a.length ≤ b.length
  | [], b, _, _ => Nat.zero_le _
  | x :: a, b, hn, hs => by
    obtain ⟨h1, h2⟩ := List.nodup_cons.mp hn
    have hx := hs x List.mem_cons_self
    have := sub_len (b := b.erase x) h2 fun y hy => (List.mem_erase_of_ne fun e => h1 (by rw [← e]; exact hy)).mpr (hs y (List.mem_cons_of_mem _ hy))
    rw [List.length_erase_of_mem hx] at this
    have := List.length_pos_of_mem hx
    simp
    omega
def freeB : List Cm := [
    .ite (.and (.cmp .NotIn (.var 1) (.var 0)) (.cmp .NotEq (.var 1) (.str "open"))) [
      .ret (.var 1)] [],
    .asg (.one 1) (.bin .Add (.idx (.str "qxyz") (.bin .Mod (.var 2) (.int 4))) (.blt .str [.var 2]))]
def fFree : Fd := ⟨["taken", "word", "k"], 2, [
  .fr (.one 2) .rng1 [.int 300] freeB,
  .ret (.var 1)]⟩
section
variable {p : Px} {Tb : List Fd} {n i ip c : Nat} {s : T}
theorem gen_at {k : Nat} (hk : k < 300) : ∃ cc, idxT (.s "qxyz") (.i ((k : Int) % 4)) = some (.s ⟨#[cc]⟩) ∧ gen k = (⟨#[cc]⟩ : Str) ++ (toString ((k : Nat) : Int) : Str) := by
  have e : ((k : Int) % 4) = ((k % 4 : Nat) : Int) := by omega
  have h4 : k % 4 < 4 := Nat.mod_lt _ (by decide)
  have hl : (("qxyz" : Str)).cps.toList.length = 4 := by decide +kernel
  refine ⟨(("qxyz" : Str)).cps.toList.getD (k % 4) 0, ?_, rfl⟩
  rw [e, idx_str, gd_t (by decide +kernel)]
  unfold atI
  rw [hl, ix_nat h4]
  show ((("qxyz" : Str)).cps.toList[k % 4]?).map _ = _
  rw [List.getElem?_eq_getElem (by rw [hl]; exact h4), List.getD_eq_getElem?_getD, List.getElem?_eq_getElem (by rw [hl]; exact h4)]
  rfl
theorem free_run {o : Bool} {xs : List Str} {x0 : Str} (h : Tb[i]? = some fFree) (hx : IsName x0) (hs : ∀ y ∈ xs, PyData.strOk y = true) (hl : xs.length ≤ 18) (hn : 1 ≤ n := by omega) : ∃ x t, run p Tb n i [.nd .lst o (xs.map .s), .s x0] = .ok (.s x) [.nd .lst o (xs.map .s), t] ∧ IsName x ∧ x ∉ xs ∧ x ≠ "open" := by
  let I : List Nat → Ev → Prop := fun its ρ => ∃ k x t2, ρ = [.nd .lst o (xs.map .s), .s x, t2] ∧ k + its.length = 300 ∧ its = (List.range 300).drop k ∧ IsName x ∧ (∀ j, j + 1 < k → gen j ∈ xs ∨ gen j = "open") ∧ (0 < k → x = gen (k - 1))
  have st : ∀ (t : Nat) (r : List Nat) (ρ : Ev), I (t :: r) ρ → TurnD p (run p Tb (n - 1)) (XIat Tb (n - 1)) (.one 2) freeB (.i t) ρ (I r) (fun o2 => ∃ x t2, o2 = .rt (.s x) [.nd .lst o (xs.map .s), .s x, t2] ∧ IsName x ∧ x ∉ xs ∧ x ≠ "open") := by
    rintro t r ρ ⟨k, x, t2, rfl, hk, hi, hx, hj, hg⟩
    have hk3 : k < 300 := by simp at hk; omega
    rw [drop_cons (by simpa using hk3)] at hi
    obtain ⟨e1, rfl⟩ := List.cons.inj hi
    have e1 : t = k := by rw [e1]; simp
    subst e1
    refine ⟨_, rfl, ?_⟩
    have i1 := inT_strs (o := o) hx.ok hs
    have hx1 := hx.ok
    have hlen := hx.len
    by_cases m : x ∈ xs ∨ x = "open"
    · refine .inl ?_
      obtain ⟨cc, g1, g2⟩ := gen_at hk3
      have hn := isName_of (gen_name t hk3)
      have g3 : (⟨#[cc]⟩ : Str) ++ (Str.ofString ((t : Int)).repr) = gen t := g2.symm
      have hl : (⟨#[cc]⟩ : Str).length + (Str.ofString ((t : Int)).repr).length ≤ 16777216 := by
        have := hn.len
        rw [← g3, len_cps, app_cps, List.length_append] at this
        rw [len_cps, len_cps]
        omega
      have tl : gd (t.log2 < 1920) (some (T.s (Str.ofString ((t : Int)).repr))) = some (T.s (Str.ofString ((t : Int)).repr)) := gd_t (by
        by_cases e : t = 0
        · subst e; decide
        · exact Nat.lt_trans ((Nat.log2_lt e).mpr (show t < 2 ^ 9 by omega)) (by decide))
      refine ⟨[.nd .lst o (xs.map .s), .s (gen t), .i t], .inl ?_, t + 1, gen t, .i t, rfl, by simp at hk ⊢; omega, rfl, hn, fun j hj2 => ?_, fun _ => by simp⟩
      · by_cases m1 : x ∈ xs
        · simp_arith [freeB, i1, m1, g1, hl, g3, tl, -idx_str]
        · have m2 : x = "open" := m.resolve_left m1
          subst m2
          simp_arith [freeB, i1, m1, g1, hl, g3, tl, -idx_str]
      · by_cases e : j + 1 < t
        · exact hj j e
        · have ej : j = t - 1 := by omega
          rw [ej, ← hg (by omega)]
          exact m
    · refine .inr (.inl ⟨.s x, [.nd .lst o (xs.map .s), .s x, .i t], ?_, x, .i t, rfl, hx, fun q => m (.inl q), fun q => m (.inr q)⟩)
      have m1 : x ∉ xs := fun q => m (.inl q)
      have m2 : x ≠ "open" := fun q => m (.inr q)
      simp_arith [freeB, i1, m1, m2, hx1]
  obtain ⟨x, t2, e, h1, h2, h3⟩ := fvs_D (D := fun o2 => ∃ x t2, o2 = .rt (.s x) [.nd .lst o (xs.map .s), .s x, t2] ∧ IsName x ∧ x ∉ xs ∧ x ≠ "open") st (by
    rintro ρ ⟨k, x, t2, rfl, hk, _, _, hj, _⟩
    simp at hk
    subst hk
    exfalso
    have := sub_len (b := ("open" : Str) :: xs) gen_nodup fun y hy => by
      obtain ⟨j, hjm, rfl⟩ := List.mem_map.mp hy
      have hj20 : j < 20 := List.mem_range.mp hjm
      rcases hj j (by omega) with h | h
      · exact List.mem_cons_of_mem _ h
      · rw [h]; exact List.mem_cons_self
    simp at this
    omega) (List.range 300) [.nd .lst o (xs.map .s), .s x0, .un] ⟨0, x0, .un, rfl, by simp, by simp, hx, by omega, by omega⟩
  refine ⟨x, .un, ?_, h1, h2, h3⟩
  rw [run_at [2, 1] h hn rfl rfl]
  simp_arith [show asgSs freeB = [1] from rfl, rngT]
  rw [e]
  simp_arith []
/-- names that differ, none of them open -/
def Names (xs : List Str) : Prop := (∀ y ∈ xs, IsName y) ∧ ("open" : Str) ∉ xs ∧ xs.Nodup
theorem Names.ok {xs : List Str} (h : Names xs) : ∀ y ∈ xs, PyData.strOk y = true := fun y hy => (h.1 y hy).ok
def namesB (ip ifr inm : Nat) : List Cm := [
    .ex (.mth .append (.var 4) [.call ifr [.var 4, .call inm [.var 0, .var 3]]])]
def fNames (ip ifr inm : Nat) : Fd := ⟨["state", "many", "k", "few", "names"], 2, [
  .par2 3 4 (.cmp .Eq (.call ip [.var 0, .int 2]) (.int 0)) (.lst []),
  .fr (.one 2) .rng1 [.var 1] (namesB ip ifr inm),
  .ret (.var 4)]⟩
theorem names_run {m : Nat} {ifr inm : Nat} (h : Tb[i]? = some (fNames ip ifr inm)) (hp : Tb[ip]? = some fPick) (hf : Tb[ifr]? = some fFree) (hnm : Tb[inm]? = some (fName ip)) (hs : St c s) (hm : m ≤ 18) (hn : 3 ≤ n := by omega) (hc : c + 1000 < 1000000000000 := by omega) :
    ∃ xs s', run p Tb n i [s, .i m] = .ok (.nd .lst true (xs.map .s)) [s', .i m] ∧ Names xs ∧ xs.length = m ∧ St (c + 1000) s' := by
  obtain ⟨d, s1, e1, d1, d2, hs1⟩ := pick_run (p := p) (n := n - 1) (many := 2) hp hs
  let I : List Nat → Ev → Prop := fun its ρ => ∃ s xs t2, ρ = [s, .i m, t2, .b (decide (d = 0)), .nd .lst true (xs.map .s)] ∧ St (c + 1 + 20 * xs.length) s ∧ its.length + xs.length = m ∧ Names xs
  have st : ∀ (t : Nat) (r : List Nat) (ρ : Ev), I (t :: r) ρ → Turn p (run p Tb (n - 1)) (XIat Tb (n - 1)) (.one 2) (namesB ip ifr inm) (.i t) ρ (I r) := by
    rintro t r ρ ⟨s, xs, t2, rfl, h1, h2, h3⟩
    simp only [List.length_cons] at h2
    obtain ⟨x, s2, e2, hx, hs2⟩ := name_run (p := p) (n := n - 1) (few := decide (d = 0)) hnm hp h1
    obtain ⟨y, t3, e3, hy, hyn, hyo⟩ := free_run (p := p) (n := n - 1) (o := true) hf hx h3.ok (by omega)
    refine turn_of rfl ⟨s2, xs ++ [y], .i t, by rw [List.map_append] <;> rfl, hs2.up (by simp; omega), by simp; omega, ?_, ?_, ?_⟩ ?_
    · intro z hz
      rcases List.mem_append.mp hz with hz | hz
      · exact h3.1 z hz
      · rw [List.mem_singleton.mp hz]; exact hy
    · intro hz
      rcases List.mem_append.mp hz with hz | hz
      · exact h3.2.1 hz
      · exact hyo (List.mem_singleton.mp hz).symm
    · refine List.nodup_append.mpr ⟨h3.2.2, by simp, fun a ha b hb e => ?_⟩
      rw [List.mem_singleton.mp hb] at e
      exact hyn (e ▸ ha)
    · simp_arith [namesB, h1.un, h1.ow, e2, hs2.un, e3]
  obtain ⟨ρ', e, s2, xs, t2, rfl, h1, h2, h3⟩ := fvs_map st (List.range m) [s1, .i m, .un, .b (decide (d = 0)), .nd .lst true []] ⟨s1, [], .un, rfl, by simpa using hs1, by simp, by simp, by simp, by simp⟩
  refine ⟨xs, s2, ?_, h3, by simpa using h2, h1.up (by simp at h2; omega)⟩
  rw [run_at [3, 4, 2] h (by omega) rfl rfl]
  simp_arith [hs.un, hs.ow, e1, hs1.un, show asgSs (namesB ip ifr inm) = [] from rfl, rngT]
  rw [e]
  simp_arith []
end
end PL
set_option Elab.async false
set_option linter.all false
set_option maxRecDepth 100000
set_option maxHeartbeats 4000000
namespace PL
open PySem PySem.Spec PyProof.Rows L2
local macro_rules
  | `(tactic| simp_arith [$as,*]) => `(tactic| simp -implicitDefEqProofs (disch := omega) [$as,*])
structure Row where
  name : Str
  beg : Str
  least : Int
  most : Int
  late : Option Int
def lateT : Option Int → T
  | none => .n
  | some k => .i k
def rowT (r : Row) : T := .tup [.s r.name, .s r.beg, .i r.least, .i r.most, lateT r.late]
/-- where a row may begin, behind the rows rs -/
def begs (b : List Str) : List Row → List Str
  | [] => b
  | r :: rs => begs (if r.late = some 0 then b ++ [r.name] else b) rs
def RowOk (b : List Str) (r : Row) : Prop := r.beg ∈ b ∧ 1 ≤ r.least ∧ r.least ≤ r.most ∧ ∀ k, r.late = some k → 0 ≤ k
def NewsOk (b : List Str) : List Row → Prop
  | [] => True
  | r :: rs => RowOk b r ∧ NewsOk (if r.late = some 0 then b ++ [r.name] else b) rs
theorem begs_snoc {r : Row} : ∀ {rs : List Row} {b : List Str}, begs b (rs ++ [r]) = if r.late = some 0 then begs b rs ++ [r.name] else begs b rs
  | [], _ => rfl
  | q :: rs, b => by
    show begs _ (rs ++ [r]) = if r.late = some 0 then begs _ rs ++ [r.name] else begs _ rs
    exact begs_snoc (rs := rs)
theorem news_snoc {r : Row} : ∀ {rs : List Row} {b : List Str}, NewsOk b (rs ++ [r]) ↔ NewsOk b rs ∧ RowOk (begs b rs) r
  | [], b => by simp [NewsOk, begs]
  | q :: rs, b => by
    show RowOk b q ∧ NewsOk _ (rs ++ [r]) ↔ (RowOk b q ∧ NewsOk _ rs) ∧ RowOk (begs _ rs) r
    rw [news_snoc, and_assoc]
theorem begs_mem {x : Str} : ∀ {rs : List Row} {b : List Str}, x ∈ begs b rs → x ∈ b ∨ ∃ r ∈ rs, r.name = x
  | [], _, h => .inl h
  | q :: rs, b, h => by
    rcases begs_mem (rs := rs) h with h | ⟨r, hr, e⟩
    · split at h
      · rcases List.mem_append.mp h with h | h
        · exact .inl h
        · exact .inr ⟨q, List.mem_cons_self, (List.mem_singleton.mp h).symm⟩
      · exact .inl h
    · exact .inr ⟨r, List.mem_cons_of_mem _ hr, e⟩
theorem begs_sub {x : Str} : ∀ {rs : List Row} {b : List Str}, x ∈ b → x ∈ begs b rs
  | [], _, h => h
  | q :: rs, b, h => begs_sub (rs := rs) (by
    split
    · exact List.mem_append_left _ h
    · exact h)
theorem late_un {l : Option Int} : isUn (lateT l) = false := by cases l <;> rfl
theorem late_ow {l : Option Int} : ow (lateT l) = false := by cases l <;> rfl
theorem late_fz {l : Option Int} : fz (lateT l) = lateT l := by cases l <;> rfl
theorem row_ow {r : Row} : ow (rowT r) = false := by
  show ows [.s r.name, .s r.beg, .i r.least, .i r.most, lateT r.late] = false
  cases h : r.late <;> rfl
@[simp] theorem ows_rows {rs : List Row} : ows (rs.map rowT) = false := ows_all fun t ht => by
  obtain ⟨r, _, rfl⟩ := List.mem_map.mp ht
  exact row_ow
def newsB (ip io : Nat) : List Cm := [
    .asg (.one 7) (.bin .Add (.int 1) (.call ip [.var 0, .bin .Add (.bin .FloorDiv (.var 3) (.int 4)) (.int 1)])),
    .asg (.one 8) (.bin .Add (.var 7) (.idx (.lst [.int 0, .call ip [.var 0, .int 4], .call ip [.var 0, .bin .Add (.bin .FloorDiv (.var 3) (.int 3)) (.int 1)]]) (.call ip [.var 0, .int 3]))),
    .asg (.one 9) (.idx (.lst [.int 0, .int 0, .int 0, .int 1, .call ip [.var 0, .int 4], .call ip [.var 0, .bin .Add (.var 3) (.int 1)], .non]) (.call ip [.var 0, .int 7])),
    .ex (.mth .append (.var 6) [.tup [.var 4, .call io [.var 0, .var 5], .var 7, .var 8, .var 9]]),
    .ite (.and (.cmp .IsNot (.var 9) .non) (.cmp .Eq (.var 9) (.int 0))) [
      .ex (.mth .append (.var 5) [.var 4])] []]
def fNews (ip io : Nat) : Fd := ⟨["state", "own", "names", "until", "name", "begins", "news", "least", "most", "late"], 4, [
  .par2 5 6 (.bin .Add (.lst [.str "open"]) (.blt .list [.var 1])) (.lst []),
  .fr (.one 4) .seq [.var 2] (newsB ip io),
  .ret (.var 6)]⟩
section
variable {p : Px} {Tb : List Fd} {n i ip io c : Nat} {s : T}
theorem news_run {o o2 : Bool} {own names : List Str} {unt : Int} (h : Tb[i]? = some (fNews ip io)) (hp : Tb[ip]? = some fPick) (ho : Tb[io]? = some (fOne ip)) (hs : St c s) (hl : names.length ≤ 20) (hl2 : own.length ≤ 30) (hu : 0 ≤ unt) (hu2 : unt ≤ 100000) (hn : 3 ≤ n := by omega) (hc : c + 1000 < 1000000000000 := by omega) :
    ∃ rs s', run p Tb n i [s, .nd .lst o (own.map .s), .nd .lst o2 (names.map .s), .i unt] = .ok (.nd .lst true (rs.map rowT)) [s', .nd .lst o (own.map .s), .nd .lst o2 (names.map .s), .i unt] ∧ NewsOk ("open" :: own) rs ∧ rs.map (·.name) = names ∧ (∀ r ∈ rs, r.most ≤ 200000 ∧ ∀ k, r.late = some k → k ≤ 200000) ∧ St (c + 1000) s' := by
  let I : List Str → Ev → Prop := fun its ρ => ∃ s rs t4 t7 t8 t9 on, ρ = [s, .nd .lst o (own.map .s), on, .i unt, t4, .nd .lst true ((begs ("open" :: own) rs).map .s), .nd .lst true (rs.map rowT), t7, t8, t9] ∧ (on = if o2 = true then .un else .nd .lst o2 (names.map .s)) ∧
    St (c + 8 * rs.length) s ∧ rs.map (·.name) ++ its = names ∧ NewsOk ("open" :: own) rs ∧ (begs ("open" :: own) rs).length ≤ 1 + own.length + rs.length ∧ (∀ r ∈ rs, r.most ≤ 200000 ∧ ∀ k, r.late = some k → k ≤ 200000)
  have st : ∀ (t : Str) (r : List Str) (ρ : Ev), I (t :: r) ρ → Turn p (run p Tb (n - 1)) (XIat Tb (n - 1)) (.one 4) (newsB ip io) (.s t) ρ (I r) := by
    rintro nm ns ρ ⟨s, rs, t4, t7, t8, t9, on, rfl, hon, h1, h2, h3, h4, h5⟩
    have hlr : rs.length + (ns.length + 1) ≤ 20 := by
      have := congrArg List.length h2
      simp at this
      omega
    obtain ⟨d1, s1, e1, a1, b1, hs1⟩ := pick_run (p := p) (n := n - 1) (many := unt / 4 + 1) hp h1
    obtain ⟨d2, s2, e2, a2, b2, hs2⟩ := pick_run (p := p) (n := n - 1) (many := 4) hp hs1
    obtain ⟨d3, s3, e3, a3, b3, hs3⟩ := pick_run (p := p) (n := n - 1) (many := unt / 3 + 1) hp hs2
    obtain ⟨d4, s4, e4, a4, b4, hs4⟩ := pick_run (p := p) (n := n - 1) (many := 3) hp hs3
    obtain ⟨d5, s5, e5, a5, b5, hs5⟩ := pick_run (p := p) (n := n - 1) (many := 4) hp hs4
    obtain ⟨d6, s6, e6, a6, b6, hs6⟩ := pick_run (p := p) (n := n - 1) (many := unt + 1) hp hs5
    obtain ⟨d7, s7, e7, a7, b7, hs7⟩ := pick_run (p := p) (n := n - 1) (many := 7) hp hs6
    obtain ⟨bt, s8, e8, hbt, hs8⟩ := one_run (p := p) (n := n - 1) (o := true) (ts := (begs ("open" :: own) rs).map .s) ho hp hs7 (fun t ht => by
      obtain ⟨y, _, rfl⟩ := List.mem_map.mp ht
      exact ⟨rfl, rfl⟩) (h1 := by
      have : 1 ≤ (begs ("open" :: own) rs).length := List.length_pos_of_mem (begs_sub List.mem_cons_self)
      simpa using this) (h2 := by simp; omega)
    obtain ⟨bg, hbg, rfl⟩ := List.mem_map.mp hbt
    obtain ⟨m1, hm1, i1⟩ : ∃ m1 : Int, (0 ≤ m1 ∧ m1 ≤ 100000) ∧ atI [T.i 0, .i d2, .i d3] d4 = some (.i m1) := by
      have : d4 = 0 ∨ d4 = 1 ∨ d4 = 2 := by omega
      rcases this with rfl | rfl | rfl
      · exact ⟨0, by omega, by simp⟩
      · exact ⟨d2, by omega, by simp⟩
      · exact ⟨d3, by omega, by simp⟩
    obtain ⟨lt, hlt, i2⟩ : ∃ lt : Option Int, (∀ k, lt = some k → 0 ≤ k ∧ k ≤ 200000) ∧ atI [T.i 0, .i 0, .i 0, .i 1, .i d5, .i d6, .n] d7 = some (lateT lt) := by
      have : d7 = 0 ∨ d7 = 1 ∨ d7 = 2 ∨ d7 = 3 ∨ d7 = 4 ∨ d7 = 5 ∨ d7 = 6 := by omega
      rcases this with rfl | rfl | rfl | rfl | rfl | rfl | rfl
      · exact ⟨some 0, fun k e => by cases e; omega, by simp [lateT]⟩
      · exact ⟨some 0, fun k e => by cases e; omega, by simp [lateT]⟩
      · exact ⟨some 0, fun k e => by cases e; omega, by simp [lateT]⟩
      · exact ⟨some 1, fun k e => by cases e; omega, by simp [lateT]⟩
      · exact ⟨some d5, fun k e => by cases e; omega, by simp [lateT]⟩
      · exact ⟨some d6, fun k e => by cases e; omega, by simp [lateT]⟩
      · exact ⟨none, fun k e => (nomatch e), rfl⟩
    refine turn_of rfl (ρ2 := [s8, .nd .lst o (own.map .s), on, .i unt, .s nm, .nd .lst true ((begs ("open" :: own) (rs ++ [Row.mk nm bg (1 + d1) (1 + d1 + m1) lt])).map .s), .nd .lst true ((rs ++ [Row.mk nm bg (1 + d1) (1 + d1 + m1) lt]).map rowT), .i (1 + d1), .i (1 + d1 + m1), lateT lt])
      ⟨s8, rs ++ [Row.mk nm bg (1 + d1) (1 + d1 + m1) lt], _, _, _, _, _, rfl, hon, hs8.up (by simp; omega), by rw [← h2]; simp, ?_, ?_, ?_⟩ ?_
    · exact news_snoc.mpr ⟨h3, hbg, by show 1 ≤ 1 + d1; omega, by show 1 + d1 ≤ 1 + d1 + m1; omega, fun k e => (hlt k e).1⟩
    · rw [begs_snoc]
      split <;> simp <;> omega
    · intro r hr
      rcases List.mem_append.mp hr with hr | hr
      · exact h5 r hr
      · rw [List.mem_singleton.mp hr]
        exact ⟨by show 1 + d1 + m1 ≤ 200000; omega, fun k e => (hlt k e).2⟩
    · have lu := late_un (l := lt)
      have lo := late_ow (l := lt)
      simp_arith [newsB, h1.un, h1.ow, e1, hs1.un, hs1.ow, e2, hs2.un, hs2.ow, e3, hs3.un, hs3.ow, e4, hs4.un, hs4.ow, e5, hs5.un, hs5.ow, e6, hs6.un, hs6.ow, e7, hs7.un, hs7.ow, e8, hs8.un, hs8.ow, i1, i2, lu, lo]
      cases lt with
      | none => simp_arith [lateT, begs_snoc, rowT]
      | some k =>
        by_cases hk : k = 0
        · subst hk
          simp_arith [lateT, begs_snoc, rowT]
        · simp_arith [lateT, begs_snoc, rowT, hk]
  obtain ⟨ρ', e, s1, rs, t4, t7, t8, t9, on, rfl, hon, h1, h2, h3, h4, h5⟩ := fvs_map st names [s, .nd .lst o (own.map .s), if o2 = true then .un else .nd .lst o2 (names.map .s), .i unt, .un, .nd .lst true ((("open" : Str) :: own).map .s), .nd .lst true [], .un, .un, .un] ⟨s, [], _, _, _, _, _, rfl, rfl, hs, rfl, trivial, by simp [begs]; omega, by simp⟩
  have hlen : rs.length = names.length := by
    have := congrArg List.length h2
    simpa using this
  refine ⟨rs, s1, ?_, h3, by simpa using h2, h5, h1.up (by omega)⟩
  rw [run_at [5, 6, 4, 7, 8, 9] h (by omega) rfl rfl]
  cases o2 with
  | true =>
    rw [if_pos rfl] at e hon
    subst hon
    simp_arith [hs.un, hs.ow, show asgSs (newsB ip io) = [7, 8, 9] from rfl, show menCs 2 (newsB ip io) = false by simp [newsB]]
    rw [show (T.s (Str.ofString "open") :: List.map T.s own) = List.map T.s (Str.ofString "open" :: own) from rfl, e]
    simp_arith []
  | false =>
    rw [if_neg (by decide)] at e hon
    subst hon
    simp_arith [hs.un, hs.ow, show asgSs (newsB ip io) = [7, 8, 9] from rfl, show menCs 2 (newsB ip io) = false by simp [newsB]]
    rw [show (T.s (Str.ofString "open") :: List.map T.s own) = List.map T.s (Str.ofString "open" :: own) from rfl, e]
    simp_arith []
def fTwo (ip : Nat) : Fd := ⟨["state", "events", "first", "second"], 2, [
  .asg (.one 2) (.call ip [.var 0, .blt .len [.var 1]]),
  .asg (.one 3) (.bin .Mod (.blt .int [.bin .Add (.bin .Add (.var 2) (.int 1)) (.call ip [.var 0, .bin .Sub (.blt .len [.var 1]) (.int 1)])]) (.blt .len [.var 1])),
  .ret (.tup [.idx (.var 1) (.var 2), .idx (.var 1) (.var 3)])]⟩
theorem atI_get {α : Type} {ts : List α} {d : Int} {k : Nat} (h : d = k) (h2 : k < ts.length) : atI ts d = some ts[k] := by
  subst h
  unfold atI
  rw [ix_nat h2]
  exact List.getElem?_eq_getElem h2
theorem two_run {o : Bool} {es : List Str} (h : Tb[i]? = some (fTwo ip)) (hp : Tb[ip]? = some fPick) (hs : St c s) (hl : 2 ≤ es.length) (hl2 : es.length ≤ 100) (hnd : es.Nodup) (hn : 2 ≤ n := by omega) (hc : c + 10 < 1000000000000 := by omega) :
    ∃ a b s', run p Tb n i [s, .nd .lst o (es.map .s)] = .ok (.tup [.s a, .s b]) [s', .nd .lst o (es.map .s)] ∧ a ∈ es ∧ b ∈ es ∧ a ≠ b ∧ St (c + 2) s' := by
  obtain ⟨d, s1, e1, a1, b1, hs1⟩ := pick_run (p := p) (n := n - 1) (many := es.length) hp hs
  obtain ⟨d2, s2, e2, a2, b2, hs2⟩ := pick_run (p := p) (n := n - 1) (many := es.length - 1) hp hs1
  have f1 : 0 ≤ (d + 1 + d2) % es.length := Int.emod_nonneg _ (by omega)
  have f2 : (d + 1 + d2) % es.length < es.length := Int.emod_lt_of_pos _ (by omega)
  obtain ⟨k1, hk1, rfl⟩ : ∃ k : Nat, k < es.length ∧ d = k := ⟨d.toNat, by omega, by omega⟩
  obtain ⟨k2, hk2, ek2⟩ : ∃ k : Nat, k < es.length ∧ ((k1 : Int) + 1 + d2) % es.length = k := ⟨(((k1 : Int) + 1 + d2) % es.length).toNat, by omega, by omega⟩
  have hne : k1 ≠ k2 := by
    intro e
    subst e
    by_cases w : (k1 : Int) + 1 + d2 < es.length
    · rw [Int.emod_eq_of_lt (by omega) w] at ek2
      omega
    · have : ((k1 : Int) + 1 + d2) % es.length = k1 + 1 + d2 - es.length := by
        rw [← Int.sub_emod_right, Int.emod_eq_of_lt (by omega) (by omega)]
      omega
  have hes : es ≠ [] := fun e => by rw [e] at hl; simp at hl
  have g1 : atI (es.map T.s) (k1 : Int) = some (.s es[k1]) := by rw [atI_get rfl (by simpa using hk1)]; simp
  have g2 : atI (es.map T.s) (k2 : Int) = some (.s es[k2]) := by rw [atI_get rfl (by simpa using hk2)]; simp
  refine ⟨es[k1], es[k2], s2, ?_, List.getElem_mem hk1, List.getElem_mem hk2, fun e => ?_, hs2⟩
  · rw [run_at [2, 3] h (by omega) rfl rfl]
    simp_arith [hs.un, hs.ow, e1, hs1.un, hs1.ow, e2, hs2.un, ek2, g1, g2, hes]
  · have pw := List.pairwise_iff_getElem.mp hnd
    rcases Nat.lt_or_gt_of_ne hne with w | w
    · exact pw _ _ hk1 hk2 w e
    · exact pw _ _ hk2 hk1 w e.symm
end
end PL
set_option Elab.async false
set_option linter.all false
set_option maxRecDepth 100000
set_option maxHeartbeats 4000000
namespace PL
open PySem PySem.Spec PyProof.Rows L2
local macro_rules
  | `(tactic| simp_arith [$as,*]) => `(tactic| simp -implicitDefEqProofs (disch := omega) [$as,*])
structure Rule where
  a : Str
  b : Str
  m : Int
def ruleT (r : Rule) : T := .tup [.s r.a, .s r.b, .i r.m]
def RuleOk (es : List Str) (r : Rule) : Prop := r.a ∈ es ∧ r.b ∈ es ∧ r.a ≠ r.b ∧ -200000 ≤ r.m ∧ r.m ≤ 200000
@[simp] theorem ows_rules {rs : List Rule} : ows (rs.map ruleT) = false := ows_all fun t ht => by
  obtain ⟨r, _, rfl⟩ := List.mem_map.mp ht
  rfl
def rulesB (ip ib io it : Nat) : List Cm := [
    .asg (.one 7) (.call ip [.var 0, .int 6]),
    .asg (.tup [.one 8, .one 9]) (.call it [.var 0, .var 5]),
    .ite (.and (.cmp .Lt (.var 7) (.int 3)) (.cmp .NotEq (.var 2) (.lst []))) [
      .asg (.one 8) (.idx (.call io [.var 0, .var 2]) (.int 0)),
      .asg (.one 9) (.call io [.var 0, .bin .Add (.lc (.var 11) (.one 11) .seq [.var 5] [.and (.cmp .NotEq (.var 11) (.var 8)) (.or (.cmp .Gt (.var 7) (.int 0)) (.cmp .NotEq (.var 11) (.str "open")))] [11]) (.lst [.str "open"])]),
      .ex (.mth .append (.var 6) [.tup [.var 8, .var 9, .call ib [.var 0, .neg (.int 2), .bin .FloorDiv (.var 3) (.int 3)]]]),
      .ex (.mth .append (.var 6) [.tup [.var 9, .var 8, .call ib [.var 0, .neg (.int 1), .bin .Add (.bin .FloorDiv (.var 3) (.int 2)) (.int 1)]]])] [
      .ite (.cmp .Eq (.var 7) (.int 3)) [
        .ex (.mth .append (.var 6) [.tup [.str "open", .call io [.var 0, .slc (.var 5) (.int 1) .non], .call ip [.var 0, .bin .Add (.var 3) (.int 1)]]])] [
        .ite (.cmp .Eq (.var 7) (.int 4)) [
          .ex (.mth .append (.var 6) [.tup [.call io [.var 0, .slc (.var 5) (.int 1) .non], .str "open", .neg (.call ip [.var 0, .bin .Add (.bin .FloorDiv (.var 3) (.int 3)) (.int 1)])]])] [
          .ex (.mth .append (.var 6) [.tup [.var 8, .var 9, .call ib [.var 0, .bin .FloorDiv (.neg (.var 3)) (.int 4), .bin .FloorDiv (.var 3) (.int 2)]]])]]]]
def fRules (ip ib io im it : Nat) : Fd := ⟨["state", "own", "news", "until", "k", "events", "rules", "kind", "first", "second", "row", "event"], 4, [
  .par2 5 6 (.bin .Add (.bin .Add (.lst [.str "open"]) (.blt .list [.var 1])) (.lc (.idx (.var 10) (.int 0)) (.one 10) .seq [.var 2] [] [10])) (.lst []),
  .fr (.one 4) .rng1 [.ite (.cmp .Gt (.blt .len [.var 5]) (.int 1)) (.call ip [.var 0, .int 7]) (.int 0)] (rulesB ip ib io it),
  .ret (.call im [.var 0, .var 6])]⟩
@[simp] theorem cutL_1 {α : Type} {x : α} {xs : List α} : cutL (x :: xs) (some 1) none = xs := by
  have h : HT.sIx (x :: xs).length 0 (some 1) = 1 := by
    unfold HT.sIx
    simp
  have h2 : HT.sIx (x :: xs).length (x :: xs).length none = (x :: xs).length := rfl
  unfold cutL
  rw [h, h2]
  simp
theorem fzs_all : ∀ {ts : List T}, (∀ t ∈ ts, fz t = t) → fzs ts = ts
  | [], _ => rfl
  | t :: ts, h => by
    rw [z_fzs_c, h t List.mem_cons_self, fzs_all fun u hu => h u (List.mem_cons_of_mem _ hu)]
@[simp] theorem fzs_strs {xs : List Str} : fzs (xs.map T.s) = xs.map T.s := fzs_all fun t ht => by
  obtain ⟨y, _, rfl⟩ := List.mem_map.mp ht
  rfl
theorem row_fz {r : Row} : fz (rowT r) = rowT r := by
  unfold rowT
  cases r.late <;> rfl
@[simp] theorem fzs_rows {xs : List Row} : fzs (xs.map rowT) = xs.map rowT := fzs_all fun t ht => by
  obtain ⟨y, _, rfl⟩ := List.mem_map.mp ht
  exact row_fz
@[simp] theorem fzs_rules {xs : List Rule} : fzs (xs.map ruleT) = xs.map ruleT := fzs_all fun t ht => by
  obtain ⟨y, _, rfl⟩ := List.mem_map.mp ht
  rfl
theorem eq_rows {o : Bool} {rs : List Row} : ∃ k, k = !rs.isEmpty ∧ True := ⟨_, rfl, trivial⟩
section
variable {p : Px} {Tb : List Fd} {n i ip ib io im it c : Nat} {s : T}
theorem strs_un {xs : List Str} : ∀ t ∈ xs.map T.s, isUn t = false ∧ ow t = false := fun t ht => by
  obtain ⟨y, _, rfl⟩ := List.mem_map.mp ht
  exact ⟨rfl, rfl⟩
theorem rows_un {xs : List Row} : ∀ t ∈ xs.map rowT, isUn t = false ∧ ow t = false := fun t ht => by
  obtain ⟨y, _, rfl⟩ := List.mem_map.mp ht
  exact ⟨rfl, row_ow⟩
/-- data of a row -/
def pdLate : Option Int → PyData
  | none => .none
  | some k => .int k
def pdRow (r : Row) : PyData := .tuple [.str r.name, .str r.beg, .int r.least, .int r.most, pdLate r.late]
theorem pd_row (r : Row) : pdOf (rowT r) = some (pdRow r) := by
  unfold rowT pdRow
  cases r.late <;> rfl
def RowStr (r : Row) : Prop := PyData.strOk r.name = true ∧ PyData.strOk r.beg = true
theorem row_lay {r : Row} (h : RowStr r) : (pdRow r).canLay0 = true := by
  unfold pdRow
  simp only [PyData.canLay0]
  refine lay_all fun d hd => ?_
  simp only [List.mem_cons, List.not_mem_nil, or_false] at hd
  rcases hd with rfl | rfl | rfl | rfl | rfl
  · simp only [PyData.canLay0]; exact h.1
  · simp only [PyData.canLay0]; exact h.2
  · simp only [PyData.canLay0]
  · simp only [PyData.canLay0]
  · cases r.late <;> simp only [pdLate, PyData.canLay0]
theorem row_depth {r : Row} : (pdRow r).depth ≤ 3 := by
  unfold pdRow
  simp only [PyData.depth, PyData.depthAll]
  cases r.late <;> simp [pdLate, PyData.depth]
theorem eqT_rows {o o2 : Bool} {rs : List Row} (h : ∀ r ∈ rs, RowStr r) : eqT (.nd .lst o (rs.map rowT)) (.nd .lst o2 []) = some rs.isEmpty := by
  unfold eqT
  have e : pdOf (.nd .lst o (rs.map rowT)) = some (.list (rs.map pdRow)) := by
    unfold pdOf
    rw [pds_map pd_row] <;> rfl
  rw [e]
  have s : SeqAt.shaped (.list (rs.map pdRow)) = true := shaped_list (fun d hd => by
    obtain ⟨r, hr, rfl⟩ := List.mem_map.mp hd
    exact row_lay (h r hr)) (fun d hd => by
    obtain ⟨r, hr, rfl⟩ := List.mem_map.mp hd
    have := row_depth (r := r)
    omega)
  show (if (SeqAt.shaped (.list (rs.map pdRow)) && SeqAt.shaped (.list [])) = true then some (PyData.eqv (.list (rs.map pdRow)) (.list [])) else none) = _
  rw [s, if_pos (by rfl)]
  cases rs <;> rfl
/-- the comprehension of others -/
theorem others_run {R : RF} {es : List Str} {a : Str} {k : Int} (he : ∀ y ∈ es, PyData.strOk y = true) (ha : PyData.strOk a = true) (hl : es.length ≤ 100) {t0 t1 t2 t3 t4 t5 t6 t9 t10 t11 : T} :
    ∃ u, lcs p R (.one 11) [11] [.and (.cmp .NotEq (.var 11) (.var 8)) (.or (.cmp .Gt (.var 7) (.int 0)) (.cmp .NotEq (.var 11) (.str "open")))] (.var 11) (es.map .s) [] [t0, t1, t2, t3, t4, t5, t6, .i k, .s a, t9, t10, t11] = .ok ((es.filter fun y => decide (y ≠ a) && (decide (0 < k) || decide (y ≠ "open"))).map .s) [t0, t1, t2, t3, t4, t5, t6, .i k, .s a, t9, t10, u] := by
  have st : ∀ (y : Str) (acc : List T) (ρ : Ev), acc.length < 100 → (∃ u, ρ = [t0, t1, t2, t3, t4, t5, t6, .i k, .s a, t9, t10, u]) → y ∈ es →
      ∃ ρ', lcSt p R (.one 11) [11] [.and (.cmp .NotEq (.var 11) (.var 8)) (.or (.cmp .Gt (.var 7) (.int 0)) (.cmp .NotEq (.var 11) (.str "open")))] (.var 11) (.s y) acc ρ = .ok (acc ++ (if (decide (y ≠ a) && (decide (0 < k) || decide (y ≠ "open"))) = true then some (T.s y) else none).toList) ρ' ∧ ∃ u, ρ' = [t0, t1, t2, t3, t4, t5, t6, .i k, .s a, t9, t10, u] := by
    rintro y acc ρ hacc ⟨u, rfl⟩ hy
    have h1 := he y hy
    refine ⟨_, ?_, .s y, rfl⟩
    unfold lcSt
    by_cases e1 : y = a
    · simp_arith [h1, ha, e1]
    · by_cases e2 : 0 < k
      · simp_arith [h1, ha, e1, e2]
      · by_cases e3 : y = "open"
        · simp_arith [h1, ha, e1, e2, e3]
          subst e3
          simp_arith [e1, e2]
        · simp_arith [h1, ha, e1, e2, e3]
  obtain ⟨ρ', e, u, rfl⟩ := lcs_mem 100 st es [] [t0, t1, t2, t3, t4, t5, t6, .i k, .s a, t9, t10, t11] (by simpa using hl) ⟨_, rfl⟩ (fun y hy => hy)
  refine ⟨u, ?_⟩
  rw [e, List.nil_append, fm_if]
theorem rules_body {own : List Str} {rs : List Row} {unt : Int} {us : List Rule} {t4 t7 t8 t9 t10 t11 : T} {XI : Nat → Option (List Str)} (hp : Tb[ip]? = some fPick) (hb : Tb[ib]? = some (fBetween ip)) (ho : Tb[io]? = some (fOne ip)) (ht : Tb[it]? = some (fTwo ip))
    (hs : St c s) (hn : 2 ≤ n) (hc : c + 1000 < 1000000000000) (hl : own.length ≤ 30) (hl2 : rs.length ≤ 20) (hl1 : 1 ≤ own.length + rs.length) (hu : 0 ≤ unt) (hu2 : unt ≤ 100000) (hN : Names (own ++ rs.map (·.name))) (hR : ∀ r ∈ rs, RowStr r) (hus : us.length ≤ 100) :
    ∃ s' vs u7 u8 u9 u11, svs p (run p Tb n) XI (rulesB ip ib io it) [s, .nd .lst false (own.map .s), .nd .lst false (rs.map rowT), .i unt, t4, .nd .lst true ((("open" : Str) :: (own ++ rs.map (·.name))).map .s), .nd .lst true (us.map ruleT), t7, t8, t9, t10, t11] =
      .nx [s', .nd .lst false (own.map .s), .nd .lst false (rs.map rowT), .i unt, t4, .nd .lst true ((("open" : Str) :: (own ++ rs.map (·.name))).map .s), .nd .lst true ((us ++ vs).map ruleT), u7, u8, u9, t10, u11] ∧
      (∀ r ∈ vs, RuleOk (("open" : Str) :: (own ++ rs.map (·.name))) r) ∧ vs.length ≤ 2 ∧ St (c + 10) s' := by
  have hEn : (("open" : Str) :: (own ++ rs.map (·.name))).Nodup := List.nodup_cons.mpr ⟨hN.2.1, hN.2.2⟩
  have hEo : ∀ y ∈ (("open" : Str) :: (own ++ rs.map (·.name))), PyData.strOk y = true := fun y hy => by
    rcases List.mem_cons.mp hy with rfl | hy
    · exact z_strOk_open
    · exact hN.ok y hy
  have hNne : own ++ rs.map (·.name) ≠ [] := fun e => by
    have := congrArg List.length e
    simp only [List.length_append, List.length_map, List.length_nil] at this
    omega
  obtain ⟨d1, s1, e1, a1, b1, hs1⟩ := pick_run (p := p) (n := n) (many := 6) hp hs
  obtain ⟨x, y, s2, e2, hx, hy, hxy, hs2⟩ := two_run (p := p) (n := n) (o := true) ht hp hs1 (by simp; omega) (by simp; omega) hEn
  have eR := eqT_rows (o := false) (o2 := true) hR
  have hR0 : rs.isEmpty = decide (rs = []) := by cases rs <;> rfl
  rw [hR0] at eR
  by_cases k1 : d1 < 3 ∧ rs ≠ []
  · obtain ⟨k1, k2⟩ := k1
    obtain ⟨rt, s3, e3, hrt, hs3⟩ := one_run (p := p) (n := n) (o := false) ho hp hs2 (rows_un (xs := rs)) (h1 := by
      have := List.length_pos_iff.mpr k2
      simp
      omega)
    obtain ⟨r, hr, rfl⟩ := List.mem_map.mp hrt
    have hrn : r.name ∈ (("open" : Str) :: (own ++ rs.map (·.name))) := List.mem_cons_of_mem _ (List.mem_append_right _ (List.mem_map_of_mem hr))
    have hro : r.name ≠ "open" := fun e => hN.2.1 (e ▸ List.mem_append_right _ (List.mem_map_of_mem hr))
    generalize hE : (("open" : Str) :: (own ++ rs.map (·.name))) = es at *
    have hel : es.length = own.length + rs.length + 1 := by rw [← hE]; simp
    obtain ⟨u, e4⟩ := others_run (p := p) (R := run p Tb n) (es := es) (a := r.name) (k := d1) hEo (hEo _ hrn) (by omega) (t0 := s3) (t1 := .nd .lst false (own.map .s)) (t2 := .nd .lst false (rs.map rowT)) (t3 := .i unt) (t4 := t4) (t5 := .un) (t6 := .nd .lst true (us.map ruleT)) (t9 := .s y) (t10 := t10) (t11 := t11)
    generalize hF : (es.filter fun y => decide (y ≠ r.name) && (decide (0 < d1) || decide (y ≠ "open"))) = fs at *
    have hfl : fs.length ≤ es.length := by rw [← hF]; exact List.length_filter_le _ _
    obtain ⟨st, s4, e5, hst, hs4⟩ := one_run (p := p) (n := n) (o := true) (ts := (fs ++ [("open" : Str)]).map T.s) ho hp hs3 (strs_un (xs := fs ++ [("open" : Str)])) (h1 := by simp) (h2 := by simp; omega)
    obtain ⟨z, hz, rfl⟩ := List.mem_map.mp hst
    have hzE : z ∈ es ∧ r.name ≠ z := by
      rcases List.mem_append.mp hz with hz | hz
      · rw [← hF] at hz
        have := List.mem_filter.mp hz
        simp at this
        exact ⟨this.1, fun e => this.2.1 e.symm⟩
      · rw [List.mem_singleton.mp hz]
        exact ⟨by rw [← hE]; exact List.mem_cons_self, hro⟩
    obtain ⟨g1, s5, e6, a6, b6, hs5⟩ := between_run (p := p) (n := n) (lo := -2) (hi := unt / 3) hb hp hs4
    obtain ⟨g2, s6, e7, a7, b7, hs6⟩ := between_run (p := p) (n := n) (lo := -1) (hi := unt / 2 + 1) hb hp hs5
    refine ⟨s6, [⟨r.name, z, -2 + g1⟩, ⟨z, r.name, -1 + g2⟩], .i d1, .s r.name, .s z, resK t11 (ow t11), ?_, ?_, by simp, hs6.up (by omega)⟩
    · simp only [List.map_append, List.map_cons, List.map_nil] at e5
      have hfl' : fs.length ≤ 60 := by omega
      simp_arith [rulesB, hs.un, hs.ow, e1, hs1.un, hs1.ow, e2, hs2.un, hs2.ow, k1, eR, k2, e3, hs3.un, hs3.ow, rowT, e4, e5, hs4.un, hs4.ow, e6, hs5.un, hs5.ow, e7, hs6.un, ruleT]
    · intro q hq
      rcases List.mem_cons.mp hq with rfl | hq
      · exact ⟨hrn, hzE.1, hzE.2, by show -200000 ≤ -2 + g1; omega, by show -2 + g1 ≤ 200000; omega⟩
      · rw [List.mem_singleton.mp hq]
        exact ⟨hzE.1, hrn, fun e => hzE.2 e.symm, by show -200000 ≤ -1 + g2; omega, by show -1 + g2 ≤ 200000; omega⟩
  · have k1' : ¬(d1 < 3 ∧ ¬ rs = []) := k1
    generalize hE : (("open" : Str) :: (own ++ rs.map (·.name))) = es at *
    have hel : es.length = own.length + rs.length + 1 := by rw [← hE]; simp
    obtain ⟨o1, om, hO⟩ : ∃ o1 om, own ++ rs.map (·.name) = o1 :: om := List.exists_cons_of_ne_nil hNne
    have hcut : cutL (es.map T.s) (some 1) none = (own ++ rs.map (·.name)).map T.s := by rw [← hE, List.map_cons, cutL_1]
    have hol : (own ++ rs.map (·.name)).length = own.length + rs.length := by simp
    have hoE : ∀ q ∈ own ++ rs.map (·.name), q ∈ es ∧ q ≠ "open" := fun q hq => ⟨by rw [← hE]; exact List.mem_cons_of_mem _ hq, fun e => hN.2.1 (e ▸ hq)⟩
    have hoo : ("open" : Str) ∈ es := by rw [← hE]; exact List.mem_cons_self
    generalize hO2 : own ++ rs.map (·.name) = os at *
    by_cases k3 : d1 = 3
    · obtain ⟨st, s3, e3, hst, hs3⟩ := one_run (p := p) (n := n) (o := true) (ts := os.map T.s) ho hp hs2 (strs_un (xs := os)) (h1 := by simp; omega) (h2 := by simp; omega)
      obtain ⟨z, hz, rfl⟩ := List.mem_map.mp hst
      obtain ⟨g1, s4, e4, a4, b4, hs4⟩ := pick_run (p := p) (n := n) (many := unt + 1) hp hs3
      refine ⟨s4, [⟨"open", z, g1⟩], .i d1, .s x, .s y, t11, ?_, ?_, by simp, hs4.up (by omega)⟩
      · simp_arith [rulesB, hs.un, hs.ow, e1, hs1.un, hs1.ow, e2, hs2.un, hs2.ow, k3, eR, e3, hs3.un, hs3.ow, ruleT, hcut, e4, hs4.un]
      · intro q hq
        rw [List.mem_singleton.mp hq]
        exact ⟨hoo, (hoE z hz).1, fun e => (hoE z hz).2 e.symm, by show -200000 ≤ g1; omega, by show g1 ≤ 200000; omega⟩
    · by_cases k4 : d1 = 4
      · obtain ⟨st, s3, e3, hst, hs3⟩ := one_run (p := p) (n := n) (o := true) (ts := os.map T.s) ho hp hs2 (strs_un (xs := os)) (h1 := by simp; omega) (h2 := by simp; omega)
        obtain ⟨z, hz, rfl⟩ := List.mem_map.mp hst
        obtain ⟨g1, s4, e4, a4, b4, hs4⟩ := pick_run (p := p) (n := n) (many := unt / 3 + 1) hp hs3
        refine ⟨s4, [⟨z, "open", -g1⟩], .i d1, .s x, .s y, t11, ?_, ?_, by simp, hs4.up (by omega)⟩
        · simp_arith [rulesB, hs.un, hs.ow, e1, hs1.un, hs1.ow, e2, hs2.un, hs2.ow, k4, eR, e3, hs3.un, hs3.ow, ruleT, hcut, e4, hs4.un]
        · intro q hq
          rw [List.mem_singleton.mp hq]
          exact ⟨(hoE z hz).1, hoo, (hoE z hz).2, by show -200000 ≤ -g1; omega, by show -g1 ≤ 200000; omega⟩
      · obtain ⟨g1, s3, e3, a3, b3, hs3⟩ := between_run (p := p) (n := n) (lo := -unt / 4) (hi := unt / 2) hb hp hs2
        refine ⟨s3, [⟨x, y, -unt / 4 + g1⟩], .i d1, .s x, .s y, t11, ?_, ?_, by simp, hs3.up (by omega)⟩
        · by_cases k5 : d1 < 3
          · have k6 : rs = [] := Classical.byContradiction fun h => k1 ⟨k5, h⟩
            simp_arith [rulesB, hs.un, hs.ow, e1, hs1.un, hs1.ow, e2, hs2.un, hs2.ow, k3, k4, k5, eqT_nil, k6, e3, hs3.un, hs3.ow, ruleT]
          · simp_arith [rulesB, hs.un, hs.ow, e1, hs1.un, hs1.ow, e2, hs2.un, hs2.ow, k3, k4, k5, eR, e3, hs3.un, hs3.ow, ruleT]
        · intro q hq
          rw [List.mem_singleton.mp hq]
          exact ⟨hx, hy, hxy, by show -200000 ≤ -unt / 4 + g1; omega, by show -unt / 4 + g1 ≤ 200000; omega⟩
theorem perm_map {α β : Type} {f : α → β} : ∀ {fs : List β} {us : List α}, fs.Perm (us.map f) → ∃ vs : List α, fs = vs.map f ∧ vs.Perm us
  | [], us, h => by
    have := h.symm.eq_nil
    have := List.map_eq_nil_iff.mp this
    subst this
    exact ⟨[], rfl, .refl _⟩
  | a :: fs, us, h => by
    obtain ⟨b, hb, rfl⟩ := List.mem_map.mp (h.mem_iff.mp List.mem_cons_self)
    obtain ⟨l1, l2, rfl⟩ := List.append_of_mem hb
    have h2 : (f b :: fs).Perm (f b :: (l1 ++ l2).map f) := h.trans (by
      rw [List.map_append, List.map_cons, List.map_append]
      exact List.perm_middle)
    obtain ⟨vs, rfl, hv⟩ := perm_map (List.Perm.cons_inv h2)
    exact ⟨b :: vs, rfl, (hv.cons b).trans List.perm_middle.symm⟩
theorem rows_names {R : RF} {rs : List Row} (hl : rs.length ≤ 100) {t0 t1 t2 t3 t4 t5 t6 t7 t8 t9 t10 t11 : T} :
    ∃ u, lcs p R (.one 10) [10] [] (.idx (.var 10) (.int 0)) (rs.map rowT) [] [t0, t1, t2, t3, t4, t5, t6, t7, t8, t9, t10, t11] = .ok ((rs.map (·.name)).map .s) [t0, t1, t2, t3, t4, t5, t6, t7, t8, t9, u, t11] := by
  have st : ∀ (y : Row) (acc : List T) (ρ : Ev), acc.length < 100 → (∃ u, ρ = [t0, t1, t2, t3, t4, t5, t6, t7, t8, t9, u, t11]) → True →
      ∃ ρ', lcSt p R (.one 10) [10] [] (.idx (.var 10) (.int 0)) (rowT y) acc ρ = .ok (acc ++ (some (T.s y.name)).toList) ρ' ∧ ∃ u, ρ' = [t0, t1, t2, t3, t4, t5, t6, t7, t8, t9, u, t11] := by
    rintro y acc ρ hacc ⟨u, rfl⟩ _
    refine ⟨_, ?_, rowT y, rfl⟩
    unfold lcSt
    have lo := late_ow (l := y.late)
    simp_arith [rowT, lo]
  obtain ⟨ρ', e, u, rfl⟩ := lcs_mem 100 st rs [] [t0, t1, t2, t3, t4, t5, t6, t7, t8, t9, t10, t11] (by simpa using hl) ⟨_, rfl⟩ (fun y hy => trivial)
  refine ⟨u, ?_⟩
  rw [e, List.nil_append, fm_some, List.map_map]
  rfl
theorem rules_run {own : List Str} {rs : List Row} {unt : Int} (h : Tb[i]? = some (fRules ip ib io im it)) (hp : Tb[ip]? = some fPick) (hb : Tb[ib]? = some (fBetween ip)) (ho : Tb[io]? = some (fOne ip)) (hm : Tb[im]? = some (fMixed ip)) (ht : Tb[it]? = some (fTwo ip))
    (hs : St c s) (hl : own.length ≤ 30) (hl2 : rs.length ≤ 20) (hu : 0 ≤ unt) (hu2 : unt ≤ 100000) (hN : Names (own ++ rs.map (·.name))) (hR : ∀ r ∈ rs, RowStr r) (hn : 3 ≤ n := by omega) (hc : c + 2000 < 1000000000000 := by omega) :
    ∃ (us : List Rule) (s' : T), run p Tb n i [s, .nd .lst false (own.map .s), .nd .lst false (rs.map rowT), .i unt] = .ok (.nd .lst true (us.map ruleT)) [s', .nd .lst false (own.map .s), .nd .lst false (rs.map rowT), .i unt] ∧
      (∀ r ∈ us, RuleOk (("open" : Str) :: (own ++ rs.map (·.name))) r) ∧ us.length ≤ 12 ∧ St (c + 1000) s' := by
  let E : T := .nd .lst true ((("open" : Str) :: (own ++ rs.map (·.name))).map .s)
  obtain ⟨k, s1, hk, ek, hs1⟩ : ∃ (k : Nat) (s1 : T), k ≤ 6 ∧ (∀ t4 t6 t7 t8 t9 t10 t11, ev p (run p Tb (n - 1)) (.ite (.cmp .Gt (.blt .len [.var 5]) (.int 1)) (.call ip [.var 0, .int 7]) (.int 0)) false [s, .nd .lst false (own.map .s), .nd .lst false (rs.map rowT), .i unt, t4, E, t6, t7, t8, t9, t10, t11] =
      .ok (.i k) [s1, .nd .lst false (own.map .s), .nd .lst false (rs.map rowT), .i unt, t4, E, t6, t7, t8, t9, t10, t11]) ∧ (St (c + 1) s1 ∧ (1 ≤ own.length + rs.length ∨ k = 0)) := by
    by_cases q : 0 < own.length + rs.length
    · obtain ⟨d, s1, e1, a1, b1, hs1⟩ := pick_run (p := p) (n := n - 1) (many := 7) hp hs
      refine ⟨d.toNat, s1, by omega, fun t4 t6 t7 t8 t9 t10 t11 => ?_, hs1, .inl q⟩
      have q2 : (1 : Int) < (own.length : Int) + rs.length + 1 := by omega
      have q3 : ((d.toNat : Nat) : Int) = d := by omega
      simp_arith [E, q2, hs.un, hs.ow, e1, hs1.un, q3]
    · refine ⟨0, s, by omega, fun t4 t6 t7 t8 t9 t10 t11 => ?_, hs.up (by omega), .inr rfl⟩
      have q2 : ¬ (1 : Int) < (own.length : Int) + rs.length + 1 := by omega
      simp_arith [E, q2]
  obtain ⟨ek, hs1, hk0⟩ := (⟨ek, hs1.1, hs1.2⟩ : _ ∧ _ ∧ _)
  let I : List Nat → Ev → Prop := fun its ρ => ∃ (s : T) (us : List Rule) (t4 t7 t8 t9 t10 t11 : T), ρ = [s, .nd .lst false (own.map .s), .nd .lst false (rs.map rowT), .i unt, t4, E, .nd .lst true (us.map ruleT), t7, t8, t9, t10, t11] ∧ its.length ≤ k ∧ us.length ≤ 2 * (k - its.length) ∧ St (c + 1 + 10 * (k - its.length)) s ∧ ∀ r ∈ us, RuleOk (("open" : Str) :: (own ++ rs.map (·.name))) r
  have st : ∀ (t : Nat) (r : List Nat) (ρ : Ev), I (t :: r) ρ → Turn p (run p Tb (n - 1)) (XIat Tb (n - 1)) (.one 4) (rulesB ip ib io it) (.i t) ρ (I r) := by
    rintro t r ρ ⟨s, us, t4, t7, t8, t9, t10, t11, rfl, h1, h2, h3, h4⟩
    simp only [List.length_cons] at h1 h2 h3
    obtain ⟨s2, vs, u7, u8, u9, u11, e, hv, hvl, hs2⟩ := rules_body (p := p) (n := n - 1) (t4 := .i t) (t7 := t7) (t8 := t8) (t9 := t9) (t10 := t10) (t11 := t11) (XI := XIat Tb (n - 1)) hp hb ho ht h3 (by omega) (by omega) hl hl2 (by omega) hu hu2 hN hR (us := us) (by omega)
    refine turn_of rfl ⟨s2, us ++ vs, _, _, _, _, _, _, rfl, by omega, by simp; omega, hs2.up (by omega), ?_⟩ e
    intro q hq
    rcases List.mem_append.mp hq with hq | hq
    · exact h4 q hq
    · exact hv q hq
  obtain ⟨u10, e10⟩ := rows_names (p := p) (R := run p Tb (n - 1)) (rs := rs) (by omega) (t0 := s) (t1 := .nd .lst false (own.map .s)) (t2 := .nd .lst false (rs.map rowT)) (t3 := .i unt) (t4 := .un) (t5 := .un) (t6 := .un) (t7 := .un) (t8 := .un) (t9 := .un) (t10 := .un) (t11 := .un)
  obtain ⟨ρ', e, s2, us, t4, t7, t8, t9, t10, t11, rfl, h1, h2, h3, h4⟩ := fvs_map st (List.range k) [s1, .nd .lst false (own.map .s), .nd .lst false (rs.map rowT), .i unt, .un, E, .nd .lst true [], .un, .un, .un, .un, .un] ⟨s1, [], _, _, _, _, _, _, rfl, by simp, by simp, by simpa using hs1, by simp⟩
  simp only [List.length_nil, Nat.sub_zero] at h2 h3
  obtain ⟨fs, s3, e3, hfs, hs3⟩ := mixed_run (p := p) (n := n - 1) (o := true) (ts := us.map ruleT) hm hp h3 (by simp) (hc := by simp only [List.length_map, List.length_nil]; omega) (h2 := by simp; omega)
  obtain ⟨vs, rfl, hvs⟩ := perm_map hfs
  simp only [List.length_map] at hs3
  refine ⟨vs, s3, ?_, fun r hr => h4 r (hvs.mem_iff.mp hr), by have := hvs.length_eq; omega, hs3.up (by omega)⟩
  have ek' := ek .un (.nd .lst true []) .un .un .un .un .un
  rw [run_at [5, 6, 4, 7, 8, 9, 8, 9] h (by omega) rfl rfl]
  have hE : T.nd Kd.lst true (T.s (Str.ofString "open") :: (List.map T.s own ++ List.map (T.s ∘ fun x => x.name) rs)) = E := by
    show _ = T.nd .lst true ((("open" : Str) :: (own ++ rs.map (·.name))).map .s)
    simp
  simp_arith [hs.un, hs.ow, e10, -ev_ite, hE]
  rw [ek']
  simp_arith [show asgSs (rulesB ip ib io it) = [7, 8, 9, 8, 9] from rfl, rngT, hs1.un, hs1.ow]
  rw [e]
  simp_arith [h3.un, h3.ow, e3, hs3.un]
/-- the day's numbers, own events, rows, rules -/
structure Raw where
  closing : Int
  own : List Str
  rows : List Row
  rules : List Rule
def Raw.evs (w : Raw) : List Str := ("open" : Str) :: (w.own ++ w.rows.map (·.name))
def rawT (w : Raw) : T := .nd .lst true [.i w.closing, .nd .lst false (w.own.map .s), .nd .lst false (w.rows.map rowT), .nd .lst true (w.rules.map ruleT)]
/-- what a drawn day keeps -/
structure RawOk (w : Raw) : Prop where
  cl0 : 0 ≤ w.closing
  cl1 : w.closing ≤ 100000
  names : Names (w.own ++ w.rows.map (·.name))
  news : NewsOk (("open" : Str) :: w.own) w.rows
  bnd : ∀ r ∈ w.rows, r.most ≤ 200000 ∧ ∀ k, r.late = some k → k ≤ 200000
  rules : ∀ r ∈ w.rules, RuleOk w.evs r
  lown : w.own.length ≤ 30
  lrows : w.rows.length ≤ 20
  lrules : w.rules.length ≤ 40
theorem news_beg : ∀ {rs : List Row} {b : List Str}, NewsOk b rs → ∀ r ∈ rs, r.beg ∈ b ∨ ∃ q ∈ rs, q.name = r.beg
  | [], _, _, _, h => nomatch h
  | q :: rs, b, h, r, hr => by
    obtain ⟨h1, h2⟩ := h
    rcases List.mem_cons.mp hr with rfl | hr
    · exact .inl h1.1
    · rcases news_beg h2 r hr with h3 | ⟨q2, h3, h4⟩
      · split at h3
        · rcases List.mem_append.mp h3 with h3 | h3
          · exact .inl h3
          · exact .inr ⟨q, List.mem_cons_self, (List.mem_singleton.mp h3).symm⟩
        · exact .inl h3
      · exact .inr ⟨q2, List.mem_cons_of_mem _ h3, h4⟩
theorem RawOk.rowStr {own : List Str} {rs : List Row} (hN : Names (own ++ rs.map (·.name))) (h : NewsOk (("open" : Str) :: own) rs) : ∀ r ∈ rs, RowStr r := fun r hr => by
  refine ⟨hN.ok _ (List.mem_append_right _ (List.mem_map_of_mem hr)), ?_⟩
  rcases news_beg h r hr with h1 | ⟨q, h1, h2⟩
  · rcases List.mem_cons.mp h1 with h1 | h1
    · rw [h1]; exact z_strOk_open
    · exact hN.ok _ (List.mem_append_left _ h1)
  · rw [← h2]
    exact hN.ok _ (List.mem_append_right _ (List.mem_map_of_mem h1))
def fDrawDay (ip inm inw iru : Nat) : Fd := ⟨["state", "owns", "parks", "until", "own_many", "park_many", "names", "closing", "own", "news"], 4, [
  .asg (.one 4) (.ite (.cmp .Eq (.call ip [.var 0, .int 16]) (.int 0)) (.int 0) (.bin .Add (.int 1) (.call ip [.var 0, .var 1]))),
  .asg (.one 5) (.call ip [.var 0, .bin .Add (.var 2) (.int 1)]),
  .asg (.one 6) (.call inm [.var 0, .bin .Add (.var 4) (.var 5)]),
  .asg (.one 7) (.ite (.cmp .Gt (.call ip [.var 0, .int 3]) (.int 0)) (.var 3) (.call ip [.var 0, .bin .Add (.var 3) (.int 1)])),
  .asg (.one 8) (.slc (.var 6) .non (.var 4)),
  .asg (.one 9) (.call inw [.var 0, .var 8, .slc (.var 6) (.var 4) .non, .var 3]),
  .ret (.lst [.var 7, .var 8, .var 9, .call iru [.var 0, .var 8, .var 9, .var 3]])]⟩
theorem cutL_to {α : Type} {xs : List α} {k : Nat} (h : k ≤ xs.length) : cutL xs none (some (k : Int)) = xs.take k := by
  have h1 : HT.sIx xs.length xs.length (some (k : Int)) = k := by
    rw [HT.sIx_nat]
    omega
  have h2 : HT.sIx xs.length 0 none = 0 := rfl
  unfold cutL
  rw [h1, h2]
  simp
theorem cutL_from {α : Type} {xs : List α} {k : Nat} (h : k ≤ xs.length) : cutL xs (some (k : Int)) none = xs.drop k := by
  have h1 : HT.sIx xs.length 0 (some (k : Int)) = k := by
    rw [HT.sIx_nat]
    omega
  have h2 : HT.sIx xs.length xs.length none = xs.length := rfl
  unfold cutL
  rw [h1, h2]
  exact List.take_of_length_le (by simp)
theorem day_run {inm inw iru ifr inme : Nat} {owns parks unt : Int} (h : Tb[i]? = some (fDrawDay ip inm inw iru)) (hp : Tb[ip]? = some fPick) (hf : Tb[ifr]? = some fFree) (hne : Tb[inme]? = some (fName ip)) (hnm : Tb[inm]? = some (fNames ip ifr inme)) (ho : Tb[io]? = some (fOne ip)) (hnw : Tb[inw]? = some (fNews ip io))
    (hb : Tb[ib]? = some (fBetween ip)) (hm : Tb[im]? = some (fMixed ip)) (ht : Tb[it]? = some (fTwo ip)) (hr : Tb[iru]? = some (fRules ip ib io im it)) (hs : St c s) (h1 : 1 ≤ owns ∧ 0 ≤ parks) (h2 : owns + parks ≤ 18) (hu : 0 ≤ unt) (hu2 : unt ≤ 100000) (hn : 4 ≤ n := by omega) (hc : c + 10000 < 1000000000000 := by omega) :
    ∃ w s', run p Tb n i [s, .i owns, .i parks, .i unt] = .ok (rawT w) [s', .i owns, .i parks, .i unt] ∧ RawOk w ∧ (w.own.length ≤ owns ∧ w.rows.length ≤ parks ∧ w.closing ≤ unt ∧ w.rules.length ≤ 12) ∧ St (c + 5000) s' := by
  obtain ⟨om, s2, hom, e2, hs2⟩ : ∃ (om : Nat) (s2 : T), (om : Int) ≤ owns ∧ ev p (run p Tb (n - 1)) (.ite (.cmp .Eq (.call ip [.var 0, .int 16]) (.int 0)) (.int 0) (.bin .Add (.int 1) (.call ip [.var 0, .var 1]))) false [s, .i owns, .i parks, .i unt, .un, .un, .un, .un, .un, .un] =
      .ok (.i om) [s2, .i owns, .i parks, .i unt, .un, .un, .un, .un, .un, .un] ∧ St (c + 2) s2 := by
    obtain ⟨d1, s1, e1, a1, b1, hs1⟩ := pick_run (p := p) (n := n - 1) (many := 16) hp hs
    by_cases q : d1 = 0
    · refine ⟨0, s1, by omega, ?_, hs1.up (by omega)⟩
      simp_arith [hs.un, hs.ow, e1, hs1.un, q]
    · obtain ⟨d2, s2, e2, a2, b2, hs2⟩ := pick_run (p := p) (n := n - 1) (many := owns) hp hs1
      refine ⟨(1 + d2).toNat, s2, by omega, ?_, hs2⟩
      have q3 : (((1 + d2).toNat : Nat) : Int) = 1 + d2 := by omega
      rw [q3]
      simp_arith [hs.un, hs.ow, e1, hs1.un, hs1.ow, q, e2, hs2.un]
  obtain ⟨d3, s3, e3, a3, b3, hs3⟩ := pick_run (p := p) (n := n - 1) (many := parks + 1) hp hs2
  obtain ⟨pm, rfl⟩ : ∃ k : Nat, d3 = k := ⟨d3.toNat, by omega⟩
  obtain ⟨xs, s4, e4, hN, hxl, hs4⟩ := names_run (p := p) (n := n - 1) (m := om + pm) hnm hp hf hne hs3 (by omega)
  obtain ⟨cl, s6, hcl, e6, hs6⟩ : ∃ (cl : Int) (s6 : T), (0 ≤ cl ∧ cl ≤ unt) ∧ ev p (run p Tb (n - 1)) (.ite (.cmp .Gt (.call ip [.var 0, .int 3]) (.int 0)) (.var 3) (.call ip [.var 0, .bin .Add (.var 3) (.int 1)])) false [s4, .i owns, .i parks, .i unt, .i om, .i pm, .nd .lst true (xs.map .s), .un, .un, .un] =
      .ok (.i cl) [s6, .i owns, .i parks, .i unt, .i om, .i pm, .nd .lst true (xs.map .s), .un, .un, .un] ∧ St (c + 1100) s6 := by
    obtain ⟨d1, s5, e5, a5, b5, hs5⟩ := pick_run (p := p) (n := n - 1) (many := 3) hp hs4
    by_cases q : 0 < d1
    · refine ⟨unt, s5, ⟨hu, by omega⟩, ?_, hs5.up (by omega)⟩
      simp_arith [hs4.un, hs4.ow, e5, hs5.un, q]
    · obtain ⟨d2, s6, e6, a6, b6, hs6⟩ := pick_run (p := p) (n := n - 1) (many := unt + 1) hp hs5
      refine ⟨d2, s6, ⟨a6, by omega⟩, ?_, hs6.up (by omega)⟩
      simp_arith [hs4.un, hs4.ow, e5, hs5.un, hs5.ow, q, e6, hs6.un]
  have c1 : cutL (xs.map T.s) none (some (om : Int)) = (xs.take om).map T.s := by rw [cutL_to (by simp; omega), List.map_take]
  have c2 : cutL (xs.map T.s) (some (om : Int)) none = (xs.drop om).map T.s := by rw [cutL_from (by simp; omega), List.map_drop]
  have hxt : (xs.take om).length = om := by simp; omega
  have hxd : (xs.drop om).length = pm := by simp; omega
  obtain ⟨rs, s7, e7, hnews, hrn, hbd, hs7⟩ := news_run (p := p) (n := n - 1) (o := true) (o2 := true) (own := xs.take om) (names := xs.drop om) hnw hp ho hs6 (by omega) (by omega) hu hu2
  have hN2 : Names (xs.take om ++ rs.map (·.name)) := by rw [hrn, List.take_append_drop]; exact hN
  have hrl : rs.length = pm := by
    have := congrArg List.length hrn
    simp only [List.length_map] at this
    omega
  obtain ⟨us, s8, e8, hus, hul, hs8⟩ := rules_run (p := p) (n := n - 1) (unt := unt) hr hp hb ho hm ht hs7 (by omega) (by omega) hu hu2 hN2 (RawOk.rowStr hN2 hnews)
  refine ⟨⟨cl, xs.take om, rs, us⟩, s8, ?_, ⟨hcl.1, by show cl ≤ 100000; omega, hN2, hnews, hbd, hus, by show (xs.take om).length ≤ 30; omega, by show rs.length ≤ 20; omega, by show us.length ≤ 40; omega⟩, ⟨by show ((xs.take om).length : Int) ≤ owns; omega, by show (rs.length : Int) ≤ parks; omega, hcl.2, hul⟩, hs8.up (by omega)⟩
  have e4' : run p Tb (n - 1) inm [s3, T.i ((om : Int) + (pm : Int))] = Rc.ok (T.nd Kd.lst true (List.map T.s xs)) [s4, T.i ((om : Int) + (pm : Int))] := by
    have := e4
    rw [Int.natCast_add] at this
    exact this
  generalize hA : xs.take om = own at *
  generalize hB : xs.drop om = nms at *
  rw [run_at [4, 5, 6, 7, 8, 9] h (by omega) rfl rfl]
  simp_arith [hs.un, hs.ow, e2, hs2.un, hs2.ow, -ev_ite, e3, hs3.un, hs3.ow, e4', hs4.un, e6, hs6.un, hs6.ow, c1, c2, e7, hs7.un, hs7.ow, e8, hs8.un, rawT]
end
end PL
set_option Elab.async false
set_option linter.all false
set_option maxRecDepth 100000
set_option maxHeartbeats 4000000
namespace PL
open PySem PySem.Spec PyProof.Rows L2
local macro_rules
  | `(tactic| simp_arith [$as,*]) => `(tactic| simp -implicitDefEqProofs (disch := omega) [$as,*])
mutual
theorem fz_id : ∀ (t : T), ow t = false → fz t = t
  | .un, _ => rfl
  | .lf _, _ => rfl
  | .cls _, _ => rfl
  | .scr _, _ => rfl
  | .cel _, h => by cases h
  | .tup ts, h => by rw [z_fz_tup, fzs_id ts h]
  | .nd k true ts, h => by cases h
  | .nd k false ts, h => rfl
theorem fzs_id : ∀ (ts : List T), ows ts = false → fzs ts = ts
  | [], _ => rfl
  | t :: ts, h => by
    obtain ⟨h1, h2⟩ := Bool.or_eq_false_iff.mp (show (ow t || ows ts) = false from h)
    rw [z_fzs_c, fz_id t h1, fzs_id ts h2]
end
theorem ows_at {ts : List T} (h : ows ts = false) {t : T} (m : t ∈ ts) : ow t = false := ows_mem h t m
/-! ### same -/
def sameL (i : Nat) : Ex := .lc (.call i [.var 3, .var 4]) (.tup [.one 3, .one 4]) .zip [.var 0, .var 1] [] [3, 4]
def sameD (i : Nat) : Ex := .lc (.call i [.idx (.var 0) (.var 2), .idx (.var 1) (.var 2)]) (.one 2) .seq [.var 1] [] [2]
def fSame (i : Nat) : Fd := ⟨["found", "due", "key", "mine", "theirs"], 2, [
  .ite (.blt .isinst [.var 1, .tup [.ty "list", .ty "tuple"]]) [
    .ite (.or (.cmp .NotEq (.blt .isinst [.var 0, .ty "list"]) (.blt .isinst [.var 1, .ty "list"])) (.cmp .NotEq (.blt .isinst [.var 0, .ty "tuple"]) (.blt .isinst [.var 1, .ty "tuple"]))) [
      .ret (.bl false)] [],
    .ret (.and (.cmp .Eq (.blt .len [.var 0]) (.blt .len [.var 1])) (.blt .all [sameL i]))] [],
  .ite (.blt .isinst [.var 1, .ty "dict"]) [
    .ite (.or (.not (.blt .isinst [.var 0, .ty "dict"])) (.not (.call i [.blt .list [.var 0], .blt .list [.var 1]]))) [
      .ret (.bl false)] [],
    .ret (.blt .all [sameD i])] [],
  .ite (.cmp .Is (.var 1) .non) [
    .ret (.cmp .Is (.var 0) .non)] [],
  .ite (.blt .isinst [.var 1, .ty "bool"]) [
    .ret (.and (.blt .isinst [.var 0, .ty "bool"]) (.cmp .Eq (.var 0) (.var 1)))] [],
  .ite (.blt .isinst [.var 1, .ty "int"]) [
    .ret (.and (.blt .isinst [.var 0, .ty "int"]) (.and (.not (.blt .isinst [.var 0, .ty "bool"])) (.cmp .Eq (.var 0) (.var 1))))] [],
  .ret (.and (.blt .isinst [.var 0, .ty "str"]) (.cmp .Eq (.var 0) (.var 1)))]⟩
def Lf (t : T) : Prop := t = .n ∨ (∃ k, t = .b k) ∨ (∃ i, t = .i i) ∨ ∃ x, t = .s x ∧ PyData.strOk x = true
def keyOk : Key → Prop
  | .inl _ => True
  | .inr x => PyData.strOk x = true
def SmL (P : T → T → Prop) (ts us : List T) : Prop := ows ts = false ∧ ows us = false ∧ ts.length = us.length ∧ ts.length ≤ 100000 ∧ ∀ q ∈ ts.zip us, P q.1 q.2
/-- alike, but for who owns; d deep at most -/
def Sm : Nat → T → T → Prop
  | 0, t, u => t = u ∧ Lf t
  | d + 1, t, u => (t = u ∧ Lf t) ∨ (∃ o o2 ts us, t = .nd .lst o ts ∧ u = .nd .lst o2 us ∧ SmL (Sm d) ts us) ∨ (∃ ts us, t = .tup ts ∧ u = .tup us ∧ SmL (Sm d) ts us) ∨
    (∃ o o2 ks ts us, t = .nd (.dct ks) o ts ∧ u = .nd (.dct ks) o2 us ∧ ks.length = ts.length ∧ ks.Nodup ∧ (∀ k ∈ ks, keyOk k) ∧ 1 ≤ d ∧ SmL (Sm d) ts us)
theorem Lf.un {t : T} (h : Lf t) : isUn t = false ∧ ow t = false := by
  rcases h with rfl | ⟨_, rfl⟩ | ⟨_, rfl⟩ | ⟨_, rfl, _⟩ <;> exact ⟨rfl, rfl⟩
theorem Sm.un {d : Nat} {t u : T} (h : Sm d t u) : isUn t = false ∧ isUn u = false := by
  cases d with
  | zero =>
    obtain ⟨rfl, h⟩ := h
    exact ⟨h.un.1, h.un.1⟩
  | succ d =>
    rcases h with ⟨rfl, h⟩ | ⟨_, _, _, _, rfl, rfl, _⟩ | ⟨_, _, rfl, rfl, _⟩ | ⟨_, _, _, _, _, rfl, rfl, _⟩
    · exact ⟨h.un.1, h.un.1⟩
    all_goals exact ⟨rfl, rfl⟩
theorem Sm.lf {d : Nat} {t : T} (h : Lf t) : Sm d t t := by
  cases d with
  | zero => exact ⟨rfl, h⟩
  | succ d => exact .inl ⟨rfl, h⟩
/-- what is left of the second: a dict is let go -/
def unD : T → T
  | .nd (.dct ks) _ ts => .nd (.dct ks) false ts
  | t => t
theorem unD_ow {t : T} (h : ow t = false) : unD t = t := by
  unfold unD
  split
  · rename_i ks o ts
    have : o = false := h
    subst this
    rfl
  · rfl
theorem zipT_map : ∀ {ts us : List T}, zipT ts us = (ts.zip us).map fun q => T.tup [q.1, q.2]
  | [], _ => by simp [zipT]
  | _ :: _, [] => by simp [zipT]
  | t :: ts, u :: us => by simp [zipT, zipT_map (ts := ts)]
theorem zip_ows {ts us : List T} (h1 : ows ts = false) (h2 : ows us = false) : ows (zipT ts us) = false := by
  rw [zipT_map]
  refine ows_all fun t ht => ?_
  obtain ⟨q, hq, rfl⟩ := List.mem_map.mp ht
  have := List.of_mem_zip hq
  simp [ows_at h1 this.1, ows_at h2 this.2]
section
variable {p : Px} {Tb : List Fd} {n i : Nat}
theorem same_list {d : Nat} {ts us : List T} {R : RF} (hR : ∀ t u, Sm d t u → R i [t, u] = .ok (.b true) [t, unD u]) (h : SmL (Sm d) ts us) {t0 t1 t2 : T} :
    ∃ v w, lcs p R (.tup [.one 3, .one 4]) [3, 4] [] (.call i [.var 3, .var 4]) (zipT ts us) [] [t0, t1, t2, .un, .un] = .ok ((ts.zip us).map fun _ => T.b true) [t0, t1, t2, v, w] := by
  obtain ⟨h1, h2, h3, h4, h5⟩ := h
  have st : ∀ (q : T × T) (acc : List T) (ρ : Ev), acc.length < 100000 → (∃ v w, ρ = [t0, t1, t2, v, w]) → q ∈ ts.zip us →
      ∃ ρ', lcSt p R (.tup [.one 3, .one 4]) [3, 4] [] (.call i [.var 3, .var 4]) (.tup [q.1, q.2]) acc ρ = .ok (acc ++ (some (T.b true)).toList) ρ' ∧ ∃ v w, ρ' = [t0, t1, t2, v, w] := by
    rintro ⟨a, b⟩ acc ρ hacc ⟨v, w, rfl⟩ hq
    have hm := List.of_mem_zip hq
    have hs := h5 _ hq
    have e := hR _ _ hs
    have u := hs.un
    have oa := ows_at h1 hm.1
    have ob := ows_at h2 hm.2
    simp only at u e oa ob
    rw [unD_ow ob] at e
    refine ⟨[t0, t1, t2, a, b], ?_, a, b, rfl⟩
    unfold lcSt
    simp_arith [u.1, u.2, oa, ob, e]
  obtain ⟨ρ', e, v, w, rfl⟩ := lcs_mem 100000 st (ts.zip us) [] [t0, t1, t2, .un, .un] (by simp; omega) ⟨_, _, rfl⟩ (fun _ h => h)
  refine ⟨v, w, ?_⟩
  rw [zipT_map, e, List.nil_append, fm_some]
theorem dget_zip : ∀ {ks : List Key} {ts us : List T} {P : T → T → Prop}, ks.length = ts.length → ts.length = us.length → (∀ q ∈ ts.zip us, P q.1 q.2) → ∀ k ∈ ks, ∃ a b, dgetT ks ts k = some a ∧ dgetT ks us k = some b ∧ P a b ∧ a ∈ ts ∧ b ∈ us
  | [], _, _, _, _, _, _, _, hk => nomatch hk
  | _ :: _, [], _, _, h, _, _, _, _ => by cases h
  | _ :: _, _ :: _, [], _, _, h, _, _, _ => by cases h
  | q :: ks, t :: ts, u :: us, P, h1, h2, h3, k, hk => by
    by_cases e : q = k
    · subst e
      exact ⟨t, u, by simp [dgetT], by simp [dgetT], h3 (t, u) List.mem_cons_self, List.mem_cons_self, List.mem_cons_self⟩
    · have hk2 : k ∈ ks := (List.mem_cons.mp hk).resolve_left fun x => e x.symm
      obtain ⟨a, b, e1, e2, e3, e4, e5⟩ := dget_zip (ks := ks) (ts := ts) (us := us) (P := P) (by simpa using h1) (by simpa using h2) (fun q hq => h3 q (List.mem_cons_of_mem _ hq)) k hk2
      refine ⟨a, b, ?_, ?_, e3, List.mem_cons_of_mem _ e4, List.mem_cons_of_mem _ e5⟩
      · simpa [dgetT, e] using e1
      · simpa [dgetT, e] using e2
@[simp] theorem toKey_keyT {k : Key} : toKey (keyT k) = some k := by cases k <;> rfl
theorem un_keyT {k : Key} : isUn (keyT k) = false ∧ ow (keyT k) = false := by cases k <;> exact ⟨rfl, rfl⟩
theorem ows_keys {ks : List Key} : ows (ks.map keyT) = false := ows_all fun t ht => by
  obtain ⟨k, _, rfl⟩ := List.mem_map.mp ht
  exact un_keyT.2
theorem same_dict {d : Nat} {o : Bool} {ks : List Key} {ts us : List T} {R : RF} (hR : ∀ t u, Sm d t u → R i [t, u] = .ok (.b true) [t, unD u]) (hk : ks.length = ts.length) (h : SmL (Sm d) ts us) {t3 t4 : T} :
    ∃ v, lcs p R (.one 2) [2] [] (.call i [.idx (.var 0) (.var 2), .idx (.var 1) (.var 2)]) (ks.map keyT) [] [.nd (.dct ks) o ts, .nd (.dct ks) false us, .un, t3, t4] = .ok (ks.map fun _ => T.b true) [.nd (.dct ks) o ts, .nd (.dct ks) false us, v, t3, t4] := by
  obtain ⟨h1, h2, h3, h4, h5⟩ := h
  have st : ∀ (k : Key) (acc : List T) (ρ : Ev), acc.length < 100000 → (∃ v, ρ = [.nd (.dct ks) o ts, .nd (.dct ks) false us, v, t3, t4]) → k ∈ ks →
      ∃ ρ', lcSt p R (.one 2) [2] [] (.call i [.idx (.var 0) (.var 2), .idx (.var 1) (.var 2)]) (keyT k) acc ρ = .ok (acc ++ (some (T.b true)).toList) ρ' ∧ ∃ v, ρ' = [.nd (.dct ks) o ts, .nd (.dct ks) false us, v, t3, t4] := by
    rintro k acc ρ hacc ⟨v, rfl⟩ hm
    obtain ⟨a, b, e1, e2, hs, ma, mb⟩ := dget_zip (P := Sm d) hk h3 h5 k hm
    have e := hR _ _ hs
    have u := hs.un
    have oa := ows_at h1 ma
    have ob := ows_at h2 mb
    have ku := un_keyT (k := k)
    rw [unD_ow ob] at e
    refine ⟨[.nd (.dct ks) o ts, .nd (.dct ks) false us, keyT k, t3, t4], ?_, _, rfl⟩
    unfold lcSt
    simp_arith [u.1, u.2, oa, ob, e, ku.1, ku.2, e1, e2]
  obtain ⟨ρ', e, v, rfl⟩ := lcs_mem 100000 st ks [] [.nd (.dct ks) o ts, .nd (.dct ks) false us, .un, t3, t4] (by simp; omega) ⟨_, rfl⟩ (fun _ h => h)
  refine ⟨v, ?_⟩
  rw [e, List.nil_append, fm_some]
theorem lf_keyT {k : Key} (h : keyOk k) : Lf (keyT k) := by
  cases k with
  | inl j => exact .inr (.inr (.inl ⟨j, rfl⟩))
  | inr x => exact .inr (.inr (.inr ⟨x, rfl, h⟩))
theorem sm_keys {ks : List Key} {o o2 : Bool} (h : ∀ k ∈ ks, keyOk k) (hl : ks.length ≤ 100000) (d : Nat) : Sm (d + 1) (.nd .lst o (ks.map keyT)) (.nd .lst o2 (ks.map keyT)) := by
  refine .inr (.inl ⟨_, _, _, _, rfl, rfl, ows_keys, ows_keys, rfl, by simpa using hl, fun q hq => ?_⟩)
  obtain ⟨a, ha, rfl⟩ : ∃ a ∈ ks, q = (keyT a, keyT a) := by
    rw [List.zip_map, List.mem_map] at hq
    obtain ⟨⟨a, b⟩, hab, rfl⟩ := hq
    have e : a = b := by
      have := List.mem_iff_getElem.mp hab
      obtain ⟨j, hj, e⟩ := this
      simp at e
      exact e.1.symm.trans e.2
    subst e
    exact ⟨a, (List.of_mem_zip hab).1, rfl⟩
  exact Sm.lf (lf_keyT (h a ha))
theorem all_true {α : Type} {l : List α} : (l.map fun _ => true).all id = true := by
  simp
theorem same_run (h : Tb[i]? = some (fSame i)) : ∀ (d n : Nat), d < n → ∀ t u, Sm d t u → run p Tb n i [t, u] = .ok (.b true) [t, unD u] := by
  have leaf : ∀ (n : Nat), 0 < n → ∀ t, Lf t → run p Tb n i [t, t] = .ok (.b true) [t, unD t] := by
    intro n hn t ht
    rw [run_at [] h (by omega) rfl rfl]
    rcases ht with rfl | ⟨k, rfl⟩ | ⟨j, rfl⟩ | ⟨x, rfl, hx⟩
    · simp_arith [unD]
    · simp_arith [unD]
    · simp_arith [unD]
    · simp_arith [unD, hx]
  intro d
  induction d with
  | zero =>
    rintro n hn t u ⟨rfl, ht⟩
    exact leaf n hn t ht
  | succ d ih =>
    intro n hn t u hs
    have hR := ih (n - 1) (by omega)
    rcases hs with ⟨rfl, ht⟩ | ⟨o, o2, ts, us, rfl, rfl, hl⟩ | ⟨ts, us, rfl, rfl, hl⟩ | ⟨o, o2, ks, ts, us, rfl, rfl, hk, hn2, hko, hd, hl⟩
    · exact leaf n (by omega) t ht
    · obtain ⟨v, w, e⟩ := same_list (p := p) (i := i) hR hl (t0 := if o = true then .un else .nd .lst o ts) (t1 := if o2 = true then .un else .nd .lst o2 us) (t2 := .un)
      have hz := zip_ows hl.1 hl.2.1
      have h3 := hl.2.2.1
      rw [run_at [] h (by omega) rfl rfl]
      cases o <;> cases o2 <;> simp at e <;> simp_arith [unD, sameL, sameD, e, hz, h3]
    · obtain ⟨v, w, e⟩ := same_list (p := p) (i := i) hR hl (t0 := .tup ts) (t1 := .tup us) (t2 := .un)
      have hz := zip_ows hl.1 hl.2.1
      have h3 := hl.2.2.1
      have h1 := hl.1
      have h2 := hl.2.1
      rw [run_at [] h (by omega) rfl rfl]
      simp_arith [unD, sameL, sameD, e, hz, h3, h1, h2]
    · obtain ⟨v, e⟩ := same_dict (p := p) (i := i) (o := o) hR hk hl (t3 := .un) (t4 := .un)
      have h1 := hl.1
      have h2 := hl.2.1
      have h3 := hl.2.2.1
      have h4 := hl.2.2.2.1
      have ek := hR _ _ (show Sm d (.nd .lst true (ks.map keyT)) (.nd .lst true (ks.map keyT)) from by
        obtain ⟨d', rfl⟩ : ∃ d', d = d' + 1 := ⟨d - 1, by omega⟩
        exact sm_keys hko (by omega) d')
      have hf := fzs_id us h2
      have hky := ows_keys (ks := ks)
      rw [run_at [] h (by omega) rfl rfl]
      cases o2 <;> simp_arith [unD, sameL, sameD, e, ek, h1, h2, hf, hky]
end
end PL
set_option Elab.async false
set_option linter.all false
set_option maxRecDepth 100000
set_option maxHeartbeats 4000000
namespace PL
open PySem PySem.Spec PyProof.Rows L2
local macro_rules
  | `(tactic| simp_arith [$as,*]) => `(tactic| simp -implicitDefEqProofs (disch := omega) [$as,*])
def copyB (i : Nat) : List Cm := [.sub (.var 1) (.var 2) (.call i [.idx (.var 0) (.var 2)])]
def fCopy (i : Nat) : Fd := ⟨["thing", "found", "key", "one"], 1, [
  .ite (.blt .isinst [.var 0, .ty "list"]) [
    .ret (.lc (.call i [.var 3]) (.one 3) .seq [.var 0] [] [3])] [],
  .ite (.blt .isinst [.var 0, .ty "tuple"]) [
    .ret (.blt .tuple [.lc (.call i [.var 3]) (.one 3) .seq [.var 0] [] [3]])] [],
  .ite (.blt .isinst [.var 0, .ty "dict"]) [
    .asg (.one 1) (.dct [] []),
    .fr (.one 2) .seq [.var 0] (copyB i),
    .ret (.var 1)] [],
  .ret (.var 0)]⟩
mutual
def copyT : T → T
  | .nd .lst _ ts => .nd .lst true (copyTs ts)
  | .nd (.dct ks) _ ts => .nd (.dct ks) true (copyTs ts)
  | .tup ts => .tup (fzs (copyTs ts))
  | .nd (.obj C fs) o ts => .nd (.obj C fs) o ts
  | .nd (.xd fs) o ts => .nd (.xd fs) o ts
  | .un => .un
  | .lf v => .lf v
  | .cls x => .cls x
  | .scr ns => .scr ns
  | .cel w => .cel w
def copyTs : List T → List T
  | [] => []
  | t :: ts => copyT t :: copyTs ts
end
theorem copyTs_map : ∀ {ts : List T}, copyTs ts = ts.map copyT
  | [] => by rw [copyTs] <;> rfl
  | t :: ts => by rw [copyTs, copyTs_map (ts := ts)] <;> rfl
/-- what copying leaves of the thing -/
def cpO : T → T
  | .nd .lst o ts => if ows ts = true then fz (.nd .lst o ts) else .nd .lst o ts
  | t => fz t
/-- plain data, d deep at most -/
def Cp : Nat → T → Prop
  | 0, t => Lf t
  | d + 1, t => Lf t ∨ (∃ o ts, t = .nd .lst o ts ∧ (o = false → ows ts = false) ∧ ts.length ≤ 100000 ∧ ∀ u ∈ ts, Cp d u) ∨ (∃ ts, t = .tup ts ∧ ts.length ≤ 100000 ∧ ∀ u ∈ ts, Cp d u) ∨
    (∃ o ks ts, t = .nd (.dct ks) o ts ∧ (o = false → ows ts = false) ∧ ks.length = ts.length ∧ ks.Nodup ∧ ts.length ≤ 100000 ∧ ∀ u ∈ ts, Cp d u)
theorem Cp.un {d : Nat} {t : T} (h : Cp d t) : isUn t = false := by
  cases d with
  | zero => exact (show Lf t from h).un.1
  | succ d =>
    rcases h with h | ⟨_, _, rfl, _⟩ | ⟨_, rfl, _⟩ | ⟨_, _, _, rfl, _⟩
    · exact h.un.1
    all_goals rfl
theorem Lf.fz {t : T} (h : Lf t) : PL.fz t = t ∧ copyT t = t := by
  rcases h with rfl | ⟨_, rfl⟩ | ⟨_, rfl⟩ | ⟨_, rfl, _⟩ <;> exact ⟨rfl, by unfold copyT; rfl⟩
@[simp] theorem ows_fzs {ts : List T} : ows (fzs ts) = false := ow_fzs ts
@[simp] theorem len_fzs {ts : List T} : (fzs ts).length = ts.length := fzs_len
theorem mem_fzs {ts : List T} {t : T} (h : t ∈ fzs ts) : ∃ u ∈ ts, t = fz u := by
  rw [fzs_map] at h
  obtain ⟨u, h1, h2⟩ := List.mem_map.mp h
  exact ⟨u, h1, h2.symm⟩
theorem Cp.fz : ∀ {d : Nat} {t : T}, Cp d t → Cp d (fz t) ∧ copyT (PL.fz t) = copyT t
  | 0, t, h => by
    have := Lf.fz h
    rw [this.1]
    exact ⟨h, rfl⟩
  | d + 1, t, h => by
    have mp : ∀ ts : List T, (∀ u ∈ ts, Cp d u) → copyTs (fzs ts) = copyTs ts := fun ts hu => by
      rw [copyTs_map, copyTs_map, fzs_map, List.map_map]
      exact List.map_congr_left fun u m => (Cp.fz (hu u m)).2
    rcases h with h | ⟨o, ts, rfl, h1, h2, h3⟩ | ⟨ts, rfl, h2, h3⟩ | ⟨o, ks, ts, rfl, h1, hk, hn, h2, h3⟩
    · have := Lf.fz h
      rw [this.1]
      exact ⟨.inl h, rfl⟩
    · cases o with
      | false => exact ⟨.inr (.inl ⟨_, _, rfl, h1, h2, h3⟩), rfl⟩
      | true =>
        rw [z_fz_nd1]
        refine ⟨.inr (.inl ⟨_, _, rfl, fun _ => ows_fzs, by rw [len_fzs]; exact h2, fun u hu => ?_⟩), ?_⟩
        · obtain ⟨v, hv, rfl⟩ := mem_fzs hu
          exact (Cp.fz (h3 v hv)).1
        · rw [copyT, copyT, mp ts h3]
    · rw [z_fz_tup]
      refine ⟨.inr (.inr (.inl ⟨_, rfl, by rw [len_fzs]; exact h2, fun u hu => ?_⟩)), ?_⟩
      · obtain ⟨v, hv, rfl⟩ := mem_fzs hu
        exact (Cp.fz (h3 v hv)).1
      · rw [copyT, copyT, mp ts h3]
    · cases o with
      | false => exact ⟨.inr (.inr (.inr ⟨_, _, _, rfl, h1, hk, hn, h2, h3⟩)), rfl⟩
      | true =>
        rw [z_fz_nd1]
        refine ⟨.inr (.inr (.inr ⟨_, _, _, rfl, fun _ => ows_fzs, by rw [len_fzs]; exact hk, hn, by rw [len_fzs]; exact h2, fun u hu => ?_⟩)), ?_⟩
        · obtain ⟨v, hv, rfl⟩ := mem_fzs hu
          exact (Cp.fz (h3 v hv)).1
        · rw [copyT, copyT, mp ts h3]
theorem cpO_ow {t : T} (h : ow t = false) : cpO t = t := by
  unfold cpO
  split
  · rename_i o ts
    have : o = false := h
    subst this
    split <;> rfl
  · exact fz_id _ h
theorem putD_new {α : Type} {ks : List Key} {xs : List α} {k : Key} {t : α} (h : k ∉ ks) : putD ks xs k t = (ks ++ [k], xs ++ [t]) := by
  unfold putD
  have e : (ks.any fun y => decide (y = k)) = false := by
    rw [List.any_eq_false]
    intro y hy
    simp
    exact fun e => h (e ▸ hy)
  rw [e]
  rfl
theorem dget_app {α : Type} : ∀ {done r : List Key} {us : List T} {k : Key} (_ : k ∉ done) (hl : done.length < us.length), dgetT (done ++ k :: r) us k = some us[done.length]
  | [], r, [], k, _, hl => by cases hl
  | [], r, u :: us, k, _, hl => by simp [dgetT]
  | y :: done, r, [], k, _, hl => by cases hl
  | y :: done, r, u :: us, k, hn, hl => by
    have e : y ≠ k := fun e => hn (by rw [e]; exact List.mem_cons_self)
    have := dget_app (α := α) (done := done) (r := r) (us := us) (k := k) (fun m => hn (List.mem_cons_of_mem _ m)) (by simpa using hl)
    simpa [dgetT, e] using this
section
variable {p : Px} {Tb : List Fd} {n i : Nat}
theorem copy_list {d : Nat} {ts : List T} {R : RF} (hR : ∀ t, Cp d t → R i [t] = .ok (copyT t) [cpO t]) (h : ∀ u ∈ ts, Cp d u) (ho : ows ts = false) (hl : ts.length ≤ 100000) {t0 t1 t2 : T} :
    ∃ v, lcs p R (.one 3) [3] [] (.call i [.var 3]) ts [] [t0, t1, t2, .un] = .ok (copyTs ts) [t0, t1, t2, v] := by
  have st : ∀ (a : T) (acc : List T) (ρ : Ev), acc.length < 100000 → (∃ v, ρ = [t0, t1, t2, v]) → a ∈ ts →
      ∃ ρ', lcSt p R (.one 3) [3] [] (.call i [.var 3]) (id a) acc ρ = .ok (acc ++ (some (copyT a)).toList) ρ' ∧ ∃ v, ρ' = [t0, t1, t2, v] := by
    rintro a acc ρ hacc ⟨v, rfl⟩ hm
    have e := hR _ (h a hm)
    have u := (h a hm).un
    have oa := ows_at ho hm
    rw [cpO_ow oa] at e
    refine ⟨[t0, t1, t2, a], ?_, _, rfl⟩
    unfold lcSt
    simp_arith [u, oa, e]
  obtain ⟨ρ', e, v, rfl⟩ := lcs_mem 100000 st ts [] [t0, t1, t2, .un] (by simp; omega) ⟨_, rfl⟩ (fun _ h => h)
  refine ⟨v, ?_⟩
  rw [List.map_id] at e
  rw [e, List.nil_append, fm_some, copyTs_map]
theorem copy_run (h : Tb[i]? = some (fCopy i)) : ∀ (d n : Nat), d < n → ∀ t, Cp d t → run p Tb n i [t] = .ok (copyT t) [cpO t] := by
  have leaf : ∀ (n : Nat), 0 < n → ∀ t, Lf t → run p Tb n i [t] = .ok (copyT t) [cpO t] := by
    intro n hn t ht
    rw [(Lf.fz ht).2, cpO_ow ht.un.2]
    rw [run_at [1, 2] h (by omega) rfl rfl]
    rcases ht with rfl | ⟨k, rfl⟩ | ⟨j, rfl⟩ | ⟨x, rfl, hx⟩ <;> simp_arith []
  intro d
  induction d with
  | zero => exact fun n hn t ht => leaf n hn t ht
  | succ d ih =>
    intro n hn t hs
    have hR := ih (n - 1) (by omega)
    rcases hs with ht | ⟨o, ts, rfl, h1, h2, h3⟩ | ⟨ts, rfl, h2, h3⟩ | ⟨o, ks, ts, rfl, h1, hk, hnd, h2, h3⟩
    · exact leaf n (by omega) t ht
    · have hz : ∀ u ∈ fzs ts, Cp d u := fun u hu => by
        obtain ⟨v, hv, rfl⟩ := mem_fzs hu
        exact (Cp.fz (h3 v hv)).1
      have ec : copyTs (fzs ts) = copyTs ts := by
        rw [copyTs_map, copyTs_map, fzs_map, List.map_map]
        exact List.map_congr_left fun u m => (Cp.fz (h3 u m)).2
      rw [run_at [1, 2] h (by omega) rfl rfl, copyT]
      cases hw : ows ts with
      | true =>
        have : o = true := by
          cases o with
          | true => rfl
          | false => rw [h1 rfl] at hw; cases hw
        subst this
        obtain ⟨v, e⟩ := copy_list (p := p) (i := i) hR hz ows_fzs (by rw [len_fzs]; exact h2) (t0 := .un) (t1 := .un) (t2 := .un)
        simp_arith [cpO, hw, e, ec]
      | false =>
        obtain ⟨v, e⟩ := copy_list (p := p) (i := i) hR h3 hw h2 (t0 := if o = true then .un else .nd .lst o ts) (t1 := .un) (t2 := .un)
        cases o <;> simp at e <;> simp_arith [cpO, hw, e]
    · have hz : ∀ u ∈ fzs ts, Cp d u := fun u hu => by
        obtain ⟨v, hv, rfl⟩ := mem_fzs hu
        exact (Cp.fz (h3 v hv)).1
      have ec : copyTs (fzs ts) = copyTs ts := by
        rw [copyTs_map, copyTs_map, fzs_map, List.map_map]
        exact List.map_congr_left fun u m => (Cp.fz (h3 u m)).2
      rw [run_at [1, 2] h (by omega) rfl rfl, copyT]
      cases hw : ows ts with
      | true =>
        obtain ⟨v, e⟩ := copy_list (p := p) (i := i) hR hz ows_fzs (by rw [len_fzs]; exact h2) (t0 := .un) (t1 := .un) (t2 := .un)
        simp_arith [cpO, hw, e, ec]
      | false =>
        obtain ⟨v, e⟩ := copy_list (p := p) (i := i) hR h3 hw h2 (t0 := .tup ts) (t1 := .un) (t2 := .un)
        have hf := fzs_id ts hw
        simp_arith [cpO, hw, e, hf]
    · -- the dict, let go
      have hg : ∃ us, fz (.nd (.dct ks) o ts) = .nd (.dct ks) false us ∧ ows us = false ∧ us.length = ts.length ∧ (∀ u ∈ us, Cp d u) ∧ copyTs us = copyTs ts := by
        cases o with
        | false => exact ⟨ts, rfl, h1 rfl, rfl, h3, rfl⟩
        | true =>
          refine ⟨fzs ts, rfl, ows_fzs, len_fzs, fun u hu => ?_, ?_⟩
          · obtain ⟨v, hv, rfl⟩ := mem_fzs hu
            exact (Cp.fz (h3 v hv)).1
          · rw [copyTs_map, copyTs_map, fzs_map, List.map_map]
            exact List.map_congr_left fun u m => (Cp.fz (h3 u m)).2
      obtain ⟨us, g1, g2, g3, g4, g5⟩ := hg
      let I : List Key → Ev → Prop := fun its ρ => ∃ done rest t2, ρ = [.nd (.dct ks) false us, .nd (.dct done) true (copyTs (us.take done.length)), t2, .un] ∧ done ++ its = ks ∧ rest = its
      have st : ∀ (k : Key) (r : List Key) (ρ : Ev), I (k :: r) ρ → Turn p (run p Tb (n - 1)) (XIat Tb (n - 1)) (.one 2) (copyB i) (keyT k) ρ (I r) := by
        rintro k r ρ ⟨done, _, t2, rfl, e1, rfl⟩
        have hlen : done.length < us.length := by
          rw [g3, ← hk, ← e1]
          simp
        have hkm : k ∈ ks := by rw [← e1]; simp
        have hnew : k ∉ done := by
          rw [← e1] at hnd
          have := (List.nodup_append.mp hnd).2.2
          exact fun hm => this k hm k List.mem_cons_self rfl
        have hget : dgetT ks us k = some us[done.length] := by rw [← e1]; exact dget_app (α := Unit) hnew hlen
        have hm : us[done.length] ∈ us := List.getElem_mem hlen
        have e := hR _ (g4 _ hm)
        have u := (g4 _ hm).un
        have oa := ows_at g2 hm
        rw [cpO_ow oa] at e
        have hdn : done.Nodup := by
          rw [← e1] at hnd
          exact (List.nodup_append.mp hnd).1
        have hdl : done.length ≤ 100000 := by omega
        refine turn_of rfl ⟨done ++ [k], _, keyT k, rfl, by simpa using e1, rfl⟩ ?_
        have tk : copyTs (us.take (done.length + 1)) = copyTs (us.take done.length) ++ [copyT us[done.length]] := by
          rw [copyTs_map, copyTs_map, ← List.take_append_getElem hlen, List.map_append] <;> rfl
        have ku := un_keyT (k := k)
        simp_arith [copyB, ku.1, ku.2, hget, u, oa, e, hdn, setD, putD_new hnew, tk]
      obtain ⟨ρ', e, done, _, t2, rfl, e1, rfl⟩ := fvs_map st ks [.nd (.dct ks) false us, .nd (.dct []) true [], .un, .un] ⟨[], ks, .un, by simp [copyTs], rfl, rfl⟩
      have e2 : done = ks := by simpa using e1
      subst e2
      have et : us.take done.length = us := List.take_of_length_le (by omega)
      rw [et, g5] at e
      have ec : copyT (.nd (.dct done) o ts) = .nd (.dct done) true (copyTs ts) := by rw [copyT]
      have ep : cpO (.nd (.dct done) o ts) = .nd (.dct done) false us := g1
      have mb : menCs 0 (copyB i) = true := by simp [copyB]
      have hky := ows_keys (ks := done)
      rw [run_at [1, 2] h (by omega) rfl rfl, ec, ep]
      cases o with
      | true =>
        rw [z_fz_nd1] at g1
        have g6 : fzs ts = us := by injection g1
        subst g6
        simp_arith [mb, hky]
        rw [e]
        simp_arith []
      | false =>
        have g6 : ts = us := by injection g1
        subst g6
        simp_arith [hky]
        rw [e]
        simp_arith []
end
end PL
set_option Elab.async false
set_option linter.all false
set_option maxRecDepth 100000
set_option maxHeartbeats 4000000
namespace PL
open PySem PySem.Spec PyProof.Rows L2
local macro_rules
  | `(tactic| simp_arith [$as,*]) => `(tactic| simp -implicitDefEqProofs (disch := omega) [$as,*])
def spoilB (i : Nat) : List Cm := [.ex (.call i [.var 1])]
def spoilC (i : Nat) : List Cm := [.ex (.call i [.idx (.var 0) (.var 2)])]
def fSpoil (i : Nat) : Fd := ⟨["thing", "one", "key"], 1, [
  .ite (.blt .isinst [.var 0, .tup [.ty "list", .ty "tuple"]]) [
    .fr (.one 1) .seq [.blt .list [.var 0]] (spoilB i)] [],
  .ite (.blt .isinst [.var 0, .ty "list"]) [
    .ex (.mth .append (.var 0) [.str "spoilt"])] [],
  .ite (.blt .isinst [.var 0, .ty "dict"]) [
    .fr (.one 2) .seq [.blt .list [.var 0]] (spoilC i),
    .sub (.var 0) (.str "spoilt") (.neg (.int 1))] [],
  .ret (.var 0)]⟩
/-- data that cannot change -/
def Im : Nat → T → Prop
  | 0, t => Lf t
  | d + 1, t => Lf t ∨ ∃ ts, t = .tup ts ∧ ts.length ≤ 100000 ∧ ∀ u ∈ ts, Im d u
theorem Im.un : ∀ {d : Nat} {t : T}, Im d t → isUn t = false ∧ ow t = false
  | 0, t, h => Lf.un h
  | d + 1, t, h => by
    rcases h with h | ⟨ts, rfl, _, h⟩
    · exact h.un
    · exact ⟨rfl, ows_all fun u hu => (h u hu).un.2⟩
theorem im_ows {d : Nat} {ts : List T} (h : ∀ u ∈ ts, Im d u) : ows ts = false := ows_all fun u hu => (h u hu).un.2
section
variable {p : Px} {Tb : List Fd} {n i : Nat}
theorem spoil_loop {d : Nat} {ts : List T} {R : RF} {XI : Nat → Option (List Str)} (hR : ∀ t, Im d t → R i [t] = .ok t [t]) (h : ∀ u ∈ ts, Im d u) {t0 t1 t2 : T} : ∃ v, fvs p R XI (.one 1) (spoilB i) ts [t0, t1, t2] = .nx [t0, v, t2] := by
  let I : List T → Ev → Prop := fun its ρ => (∃ v, ρ = [t0, v, t2]) ∧ ∀ u ∈ its, u ∈ ts
  have st : ∀ (t : T) (r : List T) (ρ : Ev), I (t :: r) ρ → Turn p R XI (.one 1) (spoilB i) (id t) ρ (I r) := by
    rintro t r ρ ⟨⟨v, rfl⟩, hm⟩
    have hi := h t (hm t List.mem_cons_self)
    have u := hi.un
    have e := hR t hi
    refine turn_of rfl ⟨⟨t, rfl⟩, fun u hu => hm u (List.mem_cons_of_mem _ hu)⟩ ?_
    simp_arith [spoilB, u.1, u.2, e]
  obtain ⟨ρ', e, ⟨v, rfl⟩, _⟩ := fvs_map st ts [t0, t1, t2] ⟨⟨_, rfl⟩, fun _ h => h⟩
  rw [List.map_id] at e
  exact ⟨v, e⟩
theorem spoil_im (h : Tb[i]? = some (fSpoil i)) : ∀ (d n : Nat), d < n → ∀ t, Im d t → run p Tb n i [t] = .ok t [t] := by
  have leaf : ∀ (n : Nat), 0 < n → ∀ t, Lf t → run p Tb n i [t] = .ok t [t] := by
    intro n hn t ht
    rw [run_at [1, 2] h (by omega) rfl rfl]
    rcases ht with rfl | ⟨k, rfl⟩ | ⟨j, rfl⟩ | ⟨x, rfl, hx⟩ <;> simp_arith []
  intro d
  induction d with
  | zero => exact fun n hn t ht => leaf n hn t ht
  | succ d ih =>
    intro n hn t hs
    have hR := ih (n - 1) (by omega)
    rcases hs with ht | ⟨ts, rfl, h2, h3⟩
    · exact leaf n (by omega) t ht
    · have ho := im_ows h3
      obtain ⟨v, e⟩ := spoil_loop (p := p) (i := i) (XI := XIat Tb (n - 1)) hR h3 (t0 := .tup ts) (t1 := .un) (t2 := .un)
      rw [run_at [1, 2] h (by omega) rfl rfl]
      simp_arith [ho, show asgSs (spoilB i) = [] from rfl, e]
theorem spoil_list (h : Tb[i]? = some (fSpoil i)) {d : Nat} {ts : List T} (hn : d + 1 < n) (hl : ts.length ≤ 100000) (h3 : ∀ u ∈ ts, Im d u) : run p Tb n i [.nd .lst true ts] = .ok (.nd .lst true (ts ++ [.s "spoilt"])) [.un] := by
  have hR := spoil_im (p := p) h d (n - 1) (by omega)
  have ho := im_ows h3
  obtain ⟨v, e⟩ := spoil_loop (p := p) (i := i) (XI := XIat Tb (n - 1)) hR h3 (t0 := .nd .lst true ts) (t1 := .un) (t2 := .un)
  rw [run_at [1, 2] h (by omega) rfl rfl]
  simp_arith [ho, show asgSs (spoilB i) = [] from rfl, e]
end
end PL
set_option Elab.async false
set_option linter.all false
set_option maxRecDepth 100000
set_option maxHeartbeats 4000000
/-! The program's days. -/
namespace PL
open PySem PySem.Spec PyProof.Rows L2
local macro_rules
  | `(tactic| simp_arith [$as,*]) => `(tactic| simp -implicitDefEqProofs (disch := omega) [$as,*])
/-- a thing whose class is at hand -/
def Tgd (p : Px) (t : T) : Prop := ∃ tg, tagOf t = some tg ∧ tg ∈ tagsOf p
theorem Tgd.un {p : Px} {t : T} (h : Tgd p t) : isUn t = false := by
  obtain ⟨tg, h, _⟩ := h
  cases t <;> first | rfl | cases h
def isI : T → Bool
  | .lf (.int _) => true
  | _ => false
def isNum : T → Bool
  | .lf (.int k) => decide (0 ≤ k)
  | _ => false
def isLs : T → Bool
  | .tup _ => true
  | .nd .lst _ _ => true
  | _ => false
def rowN (m : Nat) : T → Bool
  | .tup ts => decide (ts.length = m)
  | .nd .lst _ ts => decide (ts.length = m)
  | _ => false
def isNm : T → Bool
  | .lf (.str x) => isNameB x
  | _ => false
def fIsInt : Fd := ⟨["thing"], 1, [
  .ret (.and (.blt .isinst [.var 0, .ty "int"]) (.not (.blt .isinst [.var 0, .ty "bool"])))]⟩
def fIsNum (i0 : Nat) : Fd := ⟨["thing"], 1, [
  .ret (.and (.call i0 [.var 0]) (.cmp .GtE (.var 0) (.int 0)))]⟩
def fIsList : Fd := ⟨["thing"], 1, [
  .ret (.blt .isinst [.var 0, .tup [.ty "list", .ty "tuple"]])]⟩
def fIsRow (i2 : Nat) : Fd := ⟨["thing", "many"], 2, [
  .ret (.and (.call i2 [.var 0]) (.cmp .Eq (.blt .len [.var 0]) (.var 1)))]⟩
def fIsName : Fd := ⟨["thing", "sign"], 1, [
  .ite (.or (.not (.blt .isinst [.var 0, .ty "str"])) (.not (.chain .LtE .LtE (.int 1) (.blt .len [.var 0]) (.int 12)))) [
    .ret (.bl false)] [],
  .ite (.cmp .NotIn (.idx (.var 0) (.int 0)) (.str "abcdefghijklmnopqrstuvwxyz")) [
    .ret (.bl false)] [],
  .ret (.blt .all [.lc (.or (.cmp .In (.var 1) (.str "abcdefghijklmnopqrstuvwxyz")) (.cmp .In (.var 1) (.str "0123456789"))) (.one 1) .seq [.var 0] [] [1]])]⟩
@[simp] theorem at_0 {α : Type} {x : α} {r : List α} : atI (x :: r) 0 = some x := by
  rw [show ((0 : Int)) = ((0 : Nat) : Int) from rfl, atI_get (k := 0) rfl (by simp)]
  rfl
/-- the cases of a thing whose class is at hand -/
theorem Tgd.cases {p : Px} {P : T → Prop} {t : T} (h : Tgd p t) (hn : P .n) (hb : ∀ k, P (.b k)) (hi : ∀ k, P (.i k)) (hs : ∀ x, P (.s x)) (ht : ∀ ts, ows ts = false → P (.tup ts)) (ht1 : ∀ ts, ows ts = true → P (.tup ts))
    (hl : ∀ ts, P (.nd .lst false ts)) (hl1 : ∀ ts, P (.nd .lst true ts)) (hd : ∀ ks ts, P (.nd (.dct ks) false ts)) (hd1 : ∀ ks ts, P (.nd (.dct ks) true ts))
    (ho : ∀ C fs ts, C ∈ p.cls → P (.nd (.obj C fs) false ts)) (ho1 : ∀ C fs ts, C ∈ p.cls → P (.nd (.obj C fs) true ts)) : P t := by
  obtain ⟨tg, e, m⟩ := h
  unfold tagOf at e
  split at e
  · exact hn
  · exact hb _
  · exact hi _
  · exact hs _
  · rename_i ts
    cases w : ows ts with
    | false => exact ht _ w
    | true => exact ht1 _ w
  · rename_i o ts
    cases o with
    | false => exact hl _
    | true => exact hl1 _
  · rename_i ks o ts
    cases o with
    | false => exact hd _ _
    | true => exact hd1 _ _
  · rename_i C fs o ts
    cases e
    cases o with
    | false => exact ho _ _ _ (by simpa using m)
    | true => exact ho1 _ _ _ (by simpa using m)
  · cases e
theorem tgd_n {p : Px} : Tgd p .n := ⟨_, rfl, by simp⟩
theorem tgd_b {p : Px} {k : Bool} : Tgd p (.b k) := ⟨_, rfl, by simp⟩
theorem tgd_i {p : Px} {k : Int} : Tgd p (.i k) := ⟨_, rfl, by simp⟩
theorem tgd_s {p : Px} {x : Str} : Tgd p (.s x) := ⟨_, rfl, by simp⟩
theorem tgd_tup {p : Px} {ts : List T} : Tgd p (.tup ts) := ⟨_, rfl, by simp⟩
theorem tgd_lst {p : Px} {o : Bool} {ts : List T} : Tgd p (.nd .lst o ts) := ⟨_, rfl, by simp⟩
theorem tgd_dct {p : Px} {ks : List Key} {o : Bool} {ts : List T} : Tgd p (.nd (.dct ks) o ts) := ⟨_, rfl, by simp⟩
theorem tgd_obj {p : Px} {C : Str} {fs : List Str} {o : Bool} {ts : List T} (h : C ∈ p.cls) : Tgd p (.nd (.obj C fs) o ts) := ⟨_, rfl, by simpa using h⟩
/-! ### signs in a text -/
theorem in_sign {z : Str} (hz : ∀ c ∈ z.cps.toList, (Builtin.Str.occurrences z ⟨#[c]⟩ 0 z.length 1).isEmpty = false) (c : Nat) : inT (.s ⟨#[c]⟩) (.s z) = some (decide (c ∈ z.cps.toList)) := by
  show some (!(Builtin.Str.occurrences z ⟨#[c]⟩ 0 z.length 1).isEmpty) = _
  congr 1
  by_cases h : c ∈ z.cps.toList
  · rw [hz c h, decide_eq_true h]
    rfl
  · rw [decide_eq_false h]
    have : Builtin.Str.occurrences z ⟨#[c]⟩ 0 z.length 1 = [] := by
      refine PySem.W.occ_nil_of_no z ⟨#[c]⟩ 1 fun i hi => ?_
      cases e : Builtin.Str.subAt z ⟨#[c]⟩ i with
      | false => rfl
      | true =>
        exfalso
        unfold Builtin.Str.subAt at e
        have e2 := beq_iff_eq.mp e
        have : c ∈ z.cps.extract i (i + (⟨#[c]⟩ : Str).length) := by rw [e2]; simp
        obtain ⟨k, hk, e3⟩ := Array.mem_extract_iff_getElem.mp this
        exact h (by rw [← e3]; simp)
    rw [this]
    rfl
theorem let_mem {c : Nat} : (c ∈ (("abcdefghijklmnopqrstuvwxyz" : Str)).cps.toList) ↔ isLet c = true := by
  have e : (("abcdefghijklmnopqrstuvwxyz" : Str)).cps.toList = (List.range 26).map (· + 97) := by decide +kernel
  rw [e, List.mem_map]
  unfold isLet
  rw [decide_eq_true_eq]
  constructor
  · rintro ⟨a, h, rfl⟩
    have := List.mem_range.mp h
    omega
  · exact fun h => ⟨c - 97, List.mem_range.mpr (by omega), by omega⟩
theorem fig_mem {c : Nat} : (c ∈ (("0123456789" : Str)).cps.toList) ↔ isFig c = true := by
  have e : (("0123456789" : Str)).cps.toList = (List.range 10).map (· + 48) := by decide +kernel
  rw [e, List.mem_map]
  unfold isFig
  rw [decide_eq_true_eq]
  constructor
  · rintro ⟨a, h, rfl⟩
    have := List.mem_range.mp h
    omega
  · exact fun h => ⟨c - 48, List.mem_range.mpr (by omega), by omega⟩
@[simp] theorem in_let {c : Nat} : inT (.s ⟨#[c]⟩) (.s "abcdefghijklmnopqrstuvwxyz") = some (isLet c) := by
  rw [in_sign (by decide +kernel)]
  congr 1
  rw [Bool.eq_iff_iff, decide_eq_true_eq]
  exact let_mem
@[simp] theorem in_fig {c : Nat} : inT (.s ⟨#[c]⟩) (.s "0123456789") = some (isFig c) := by
  rw [in_sign (by decide +kernel)]
  congr 1
  rw [Bool.eq_iff_iff, decide_eq_true_eq]
  exact fig_mem
section
variable {p : Px} {Tb : List Fd} {n i i0 i2 : Nat} {t : T}
theorem isInt_run (h : Tb[i]? = some fIsInt) (ht : Tgd p t) (hn : 1 ≤ n := by omega) : run p Tb n i [t] = .ok (.b (isI t)) [t] := by
  refine Tgd.cases (P := fun t => run p Tb n i [t] = .ok (.b (isI t)) [t]) ht ?_ ?_ ?_ ?_ ?_ ?_ ?_ ?_ ?_ ?_ ?_ ?_
  all_goals intros
  all_goals rw [run_at [] h hn rfl rfl]
  all_goals simp_arith [isI, *]
theorem isNum_run (h : Tb[i]? = some (fIsNum i0)) (h0 : Tb[i0]? = some fIsInt) (ht : Tgd p t) (hn : 2 ≤ n := by omega) : run p Tb n i [t] = .ok (.b (isNum t)) [t] := by
  have e := fun t => isInt_run (p := p) (t := t) (n := n - 1) h0
  refine Tgd.cases (P := fun t => Tgd p t → run p Tb n i [t] = .ok (.b (isNum t)) [t]) ht ?_ ?_ ?_ ?_ ?_ ?_ ?_ ?_ ?_ ?_ ?_ ?_ ht
  all_goals intros
  all_goals rw [run_at [] h (by omega) rfl rfl]
  all_goals have e := e _ ‹_›
  all_goals simp_arith [isI, isNum, *]
theorem isList_run (h : Tb[i]? = some fIsList) (ht : Tgd p t) (hn : 1 ≤ n := by omega) : run p Tb n i [t] = .ok (.b (isLs t)) [t] := by
  refine Tgd.cases (P := fun t => run p Tb n i [t] = .ok (.b (isLs t)) [t]) ht ?_ ?_ ?_ ?_ ?_ ?_ ?_ ?_ ?_ ?_ ?_ ?_
  all_goals intros
  all_goals rw [run_at [] h hn rfl rfl]
  all_goals simp_arith [isLs, *]
theorem isRow_run {m : Nat} {mi : Int} (hm : mi = m) (h : Tb[i]? = some (fIsRow i2)) (h2 : Tb[i2]? = some fIsList) (ht : Tgd p t) (hn : 2 ≤ n := by omega) : run p Tb n i [t, .i mi] = .ok (.b (rowN m t)) [t, .i mi] := by
  have e := fun t => isList_run (p := p) (t := t) (n := n - 1) h2
  subst hm
  refine Tgd.cases (P := fun t => Tgd p t → run p Tb n i [t, .i m] = .ok (.b (rowN m t)) [t, .i m]) ht ?_ ?_ ?_ ?_ ?_ ?_ ?_ ?_ ?_ ?_ ?_ ?_ ht
  all_goals intros
  all_goals rw [run_at [] h (by omega) rfl rfl]
  all_goals have e := e _ ‹_›
  all_goals simp_arith [isLs, rowN, Int.natCast_inj, *]
theorem name_signs {R : RF} {x : Str} (hl : x.cps.toList.length ≤ 12) {t0 : T} :
    ∃ v, lcs p R (.one 1) [1] [] (.or (.cmp .In (.var 1) (.str "abcdefghijklmnopqrstuvwxyz")) (.cmp .In (.var 1) (.str "0123456789"))) (x.cps.toList.map fun c => .s ⟨#[c]⟩) [] [t0, .un] = .ok ((x.cps.toList.map fun c => T.b (isLet c || isFig c))) [t0, v] := by
  have st : ∀ (c : Nat) (acc : List T) (ρ : Ev), acc.length < 12 → (∃ v, ρ = [t0, v]) → c ∈ x.cps.toList →
      ∃ ρ', lcSt p R (.one 1) [1] [] (.or (.cmp .In (.var 1) (.str "abcdefghijklmnopqrstuvwxyz")) (.cmp .In (.var 1) (.str "0123456789"))) (.s ⟨#[c]⟩) acc ρ = .ok (acc ++ (some (T.b (isLet c || isFig c))).toList) ρ' ∧ ∃ v, ρ' = [t0, v] := by
    rintro c acc ρ hacc ⟨v, rfl⟩ hm
    refine ⟨[t0, .s ⟨#[c]⟩], ?_, _, rfl⟩
    unfold lcSt
    cases e : isLet c <;> simp_arith [e]
  obtain ⟨ρ', e, v, rfl⟩ := lcs_mem 12 st x.cps.toList [] [t0, .un] (by simpa using hl) ⟨_, rfl⟩ (fun _ h => h)
  refine ⟨v, ?_⟩
  rw [e, List.nil_append, fm_some]
theorem isName_run (h : Tb[i]? = some fIsName) (ht : Tgd p t) (hs : ∀ x, t = .s x → x.length ≤ 1000) (hn : 1 ≤ n := by omega) : run p Tb n i [t] = .ok (.b (isNm t)) [t] := by
  refine Tgd.cases (P := fun t => (∀ x, t = .s x → x.length ≤ 1000) → run p Tb n i [t] = .ok (.b (isNm t)) [t]) ht ?_ ?_ ?_ ?_ ?_ ?_ ?_ ?_ ?_ ?_ ?_ ?_ hs
  case refine_4 =>
    intro x hs
    have hx := hs x rfl
    rw [run_at [] h (by omega) rfl rfl]
    show _ = Rc.ok (.b (isNameB x)) _
    by_cases c1 : 1 ≤ x.length ∧ x.length ≤ 12
    · have hl : x.cps.toList.length ≤ 12 := by rw [← len_cps]; exact c1.2
      obtain ⟨v, e⟩ := name_signs (p := p) (R := run p Tb (n - 1)) (x := x) hl (t0 := .s x)
      cases e2 : x.cps.toList with
      | nil =>
        rw [len_cps, e2] at c1
        simp at c1
      | cons c0 r =>
        have e3 : isNameB x = (isLet c0 && r.all fun c => isLet c || isFig c) := by
          unfold isNameB
          rw [e2] at hl ⊢
          simp only [List.length_cons] at hl
          show (isLet c0 && (r.all fun c => isLet c || isFig c) && decide (r.length ≤ 11)) = _
          rw [decide_eq_true (by omega : r.length ≤ 11), Bool.and_true]
        rw [e2] at e
        simp only [List.map_cons] at e
        have d1 : (1 : Int) ≤ x.length := by omega
        have d2 : (x.length : Int) ≤ 12 := by omega
        cases e4 : isLet c0 with
        | false => simp_arith [hx, d1, d2, e2, e3, e4]
        | true => simp_arith [hx, d1, d2, e2, e3, e4, e]
    · have e3 : isNameB x = false := by
        cases e3 : isNameB x with
        | false => rfl
        | true => exact absurd ⟨(isName_of e3).len.1, (isName_of e3).len.2⟩ c1
      rw [e3]
      by_cases c2 : 1 ≤ x.length
      · have d1 : (1 : Int) ≤ x.length := by omega
        have d2 : ¬ (x.length : Int) ≤ 12 := by omega
        simp_arith [hx, d1, d2]
      · have d1 : ¬ (1 : Int) ≤ x.length := by omega
        simp_arith [hx, d1]
  all_goals intros
  all_goals rw [run_at [] h hn rfl rfl]
  all_goals simp_arith [isNm, *]
end
end PL
set_option Elab.async false
set_option linter.all false
set_option maxRecDepth 100000
set_option maxHeartbeats 4000000
namespace PL
open PySem PySem.Spec PyProof.Rows L2
local macro_rules
  | `(tactic| simp_arith [$as,*]) => `(tactic| simp -implicitDefEqProofs (disch := omega) [$as,*])
/-- a set of names, as a dict -/
def sT (o : Bool) (xs : List Str) : T := .nd (.dct (xs.map .inr)) o (xs.map fun _ => T.b true)
theorem dget_set {x : Str} : ∀ {xs : List Str}, dgetT (xs.map .inr) (xs.map fun _ => T.b true) (.inr x) = if x ∈ xs then some (.b true) else none
  | [] => rfl
  | y :: xs => by
    have ih := dget_set (x := x) (xs := xs)
    by_cases e : y = x
    · subst e
      simp [dgetT]
    · have e2 : ¬ x = y := fun h => e h.symm
      simp only [List.map_cons, List.mem_cons, e2, false_or]
      rw [← ih]
      simp [dgetT, e]
@[simp] theorem in_set {o : Bool} {xs : List Str} {x : Str} : inT (.s x) (sT o xs) = some (decide (x ∈ xs)) := by
  unfold sT
  rw [z_in_d, z_key_s]
  show some (dgetT _ _ _).isSome = _
  rw [dget_set]
  by_cases h : x ∈ xs <;> simp [h]
@[simp] theorem un_sT {o : Bool} {xs : List Str} : isUn (sT o xs) = false := rfl
@[simp] theorem ow_sT {o : Bool} {xs : List Str} : ow (sT o xs) = o := rfl
@[simp] theorem dct_sT {o : Bool} {xs : List Str} : isDct (sT o xs) = true := rfl
def addS (xs : List Str) (x : Str) : List Str := if x ∈ xs then xs else xs ++ [x]
theorem putDv_set {x : Str} : ∀ {xs : List Str}, putDv (xs.map Sum.inr : List Key) (xs.map fun _ => T.b true) (.inr x) (.b true) = xs.map fun _ => T.b true
  | [] => rfl
  | y :: xs => by
    show (if _ then T.b true else T.b true) :: putDv _ _ _ _ = _
    rw [putDv_set (xs := xs), ite_self]
    rfl
theorem inr_mem {x : Str} {xs : List Str} : ((Sum.inr x : Key) ∈ xs.map Sum.inr) ↔ x ∈ xs := by simp
theorem set_sT {xs : List Str} {x : Str} (hl : xs.length < 10000) (hn : xs.Nodup) : setF (sT true xs) (.s x) (.b true) = some (sT true (addS xs x)) := by
  unfold sT
  rw [z_set_d, z_key_s, z_setK, gd_t (by simp; omega), gd_t (.inl rfl)]
  unfold setD addS
  by_cases h : x ∈ xs
  · have e : putD (xs.map Sum.inr : List Key) (xs.map fun _ => T.b true) (.inr x) (.b true) = (xs.map Sum.inr, xs.map fun _ => T.b true) := by
      unfold putD
      rw [if_pos (by simpa using h), putDv_set]
    rw [e, if_pos h]
  · rw [putD_new (by simpa using h), if_neg h]
    simp
theorem addS_mem {xs : List Str} {x y : Str} : y ∈ addS xs x ↔ y ∈ xs ∨ y = x := by
  unfold addS
  split
  · constructor
    · exact .inl
    · rintro (h | rfl)
      · exact h
      · assumption
  · simp
theorem addS_nodup {xs : List Str} {x : Str} (h : xs.Nodup) : (addS xs x).Nodup := by
  unfold addS
  split
  · exact h
  · exact List.nodup_append.mpr ⟨h, by simp, fun a ha b hb e => by
      rw [List.mem_singleton.mp hb] at e
      subst e
      contradiction⟩
theorem addS_len {xs : List Str} {x : Str} : (addS xs x).length ≤ xs.length + 1 := by
  unfold addS
  split <;> simp
/-- a list or a tuple of these -/
def Sq (t : T) (ts : List T) : Prop := t = .tup ts ∨ ∃ o, t = .nd .lst o ts
def unlikeB : List Cm := [
    .ite (.cmp .In (.var 2) (.var 1)) [
      .ret (.bl false)] [],
    .sub (.var 1) (.var 2) (.bl true)]
def fUnlike : Fd := ⟨["words", "seen", "word"], 1, [
  .asg (.one 1) (.dct [] []),
  .fr (.one 2) .seq [.var 0] unlikeB,
  .ret (.bl true)]⟩
def ownE (i4 : Nat) : Ex := .lc (.and (.call i4 [.var 1]) (.cmp .NotEq (.var 1) (.str "open"))) (.one 1) .seq [.var 0] [] [1]
def fOwnFits (i2 i4 i5 : Nat) : Fd := ⟨["own", "name"], 1, [
  .ite (.not (.call i2 [.var 0])) [
    .ret (.bl false)] [],
  .ite (.not (.blt .all [ownE i4])) [
    .ret (.bl false)] [],
  .ret (.call i5 [.var 0])]⟩
/-- an own event's name -/
def nmOk : T → Bool
  | .lf (.str x) => isNameB x && decide (x ≠ "open")
  | _ => false
def itsOf : T → List T
  | .tup ts => ts
  | .nd .lst _ ts => ts
  | _ => []
def strOf : T → Str
  | .lf (.str x) => x
  | _ => ""
def ownB (t : T) : Bool := isLs t && (itsOf t).all nmOk && decide ((itsOf t).map strOf).Nodup
/-- things whose classes are at hand, no long texts, owned by nobody -/
def Its (p : Px) (ts : List T) : Prop := ts.length ≤ 1000 ∧ ∀ u ∈ ts, Tgd p u ∧ ow u = false ∧ ∀ x, u = .s x → x.length ≤ 1000
theorem Its.ows {p : Px} {ts : List T} (h : Its p ts) : ows ts = false := ows_all fun u hu => (h.2 u hu).2.1
theorem nm_strs {ts : List T} (h : ts.all nmOk = true) : ts = (ts.map strOf).map T.s ∧ ∀ x ∈ ts.map strOf, isNameB x = true ∧ x ≠ "open" := by
  induction ts with
  | nil => exact ⟨rfl, fun _ h => nomatch h⟩
  | cons t ts ih =>
    rw [List.all_cons, Bool.and_eq_true] at h
    obtain ⟨i1, i2⟩ := ih h.2
    have h1 := h.1
    unfold nmOk at h1
    split at h1
    · rename_i x
      rw [Bool.and_eq_true, decide_eq_true_eq] at h1
      refine ⟨?_, fun y hy => ?_⟩
      · conv => lhs; rw [i1]
        rfl
      · rcases List.mem_cons.mp hy with rfl | hy
        · exact h1
        · exact i2 y hy
    · cases h1
section
variable {p : Px} {Tb : List Fd} {n i i2 i4 i5 : Nat} {t : T}
theorem unlike_loop {R : RF} {XI : Nat → Option (List Str)} {xs : List Str} (hl : xs.length ≤ 1000) {t0 : T} :
    (xs.Nodup ∧ ∃ v ys, fvs p R XI (.one 2) unlikeB (xs.map .s) [t0, .nd (.dct []) true [], .un] = .nx [t0, sT true ys, v]) ∨ (¬ xs.Nodup ∧ ∃ v ys, fvs p R XI (.one 2) unlikeB (xs.map .s) [t0, .nd (.dct []) true [], .un] = .rt (.b false) [t0, sT true ys, v]) := by
  let I : List Str → Ev → Prop := fun its ρ => ∃ done v, done ++ its = xs ∧ done.Nodup ∧ ρ = [t0, sT true done, v]
  let D : Fw → Prop := fun o => (xs.Nodup ∧ ∃ v ys, o = .nx [t0, sT true ys, v]) ∨ (¬ xs.Nodup ∧ ∃ v ys, o = .rt (.b false) [t0, sT true ys, v])
  have st : ∀ (x : Str) (r : List Str) (ρ : Ev), I (x :: r) ρ → TurnD p R XI (.one 2) unlikeB (.s x) ρ (I r) D := by
    rintro x r ρ ⟨done, v, e1, hd, rfl⟩
    have hdl : done.length < 10000 := by
      rw [← e1] at hl
      simp at hl
      omega
    refine ⟨_, rfl, ?_⟩
    by_cases hx : x ∈ done
    · refine .inr (.inl ⟨.b false, [t0, sT true done, .s x], ?_, .inr ⟨?_, _, _, rfl⟩⟩)
      · simp_arith [unlikeB, hx]
      · rw [← e1]
        intro h
        exact (List.nodup_append.mp h).2.2 x hx x List.mem_cons_self rfl
    · have hs := set_sT (x := x) hdl hd
      have ha : addS done x = done ++ [x] := if_neg hx
      rw [ha] at hs
      refine .inl ⟨[t0, sT true (done ++ [x]), .s x], .inl ?_, done ++ [x], _, by simpa using e1, by rw [← ha]; exact addS_nodup hd, rfl⟩
      simp_arith [unlikeB, hx, setV, hs]
  exact fvs_D (D := D) st (by
    rintro ρ ⟨done, v, e1, hd, rfl⟩
    rw [List.append_nil] at e1
    subst e1
    exact .inl ⟨hd, _, _, rfl⟩) xs _ ⟨[], _, rfl, List.nodup_nil, rfl⟩
theorem unlike_run {xs : List Str} (h : Tb[i]? = some fUnlike) (hl : xs.length ≤ 1000) (ht : Sq t (xs.map .s)) (hn : 1 ≤ n := by omega) : run p Tb n i [t] = .ok (.b (decide xs.Nodup)) [t] := by
  have hw : ows (xs.map T.s) = false := ows_all fun u hu => by
    obtain ⟨y, _, rfl⟩ := List.mem_map.mp hu
    rfl
  have hm : menCs 0 unlikeB = false := by simp [unlikeB]
  have ha : asgSs unlikeB = [] := rfl
  rw [run_at [1, 2] h (by omega) rfl rfl]
  rcases ht with rfl | ⟨o, rfl⟩
  · rcases unlike_loop (p := p) (R := run p Tb (n - 1)) (XI := XIat Tb (n - 1)) hl (t0 := .tup (xs.map .s)) with ⟨hx, v, ys, e⟩ | ⟨hx, v, ys, e⟩
    · simp_arith [hw, hm, ha, e, hx]
    · simp_arith [hw, hm, ha, e, hx]
  · rcases unlike_loop (p := p) (R := run p Tb (n - 1)) (XI := XIat Tb (n - 1)) hl (t0 := if o = true then .un else .nd .lst o (xs.map .s)) with ⟨hx, v, ys, e⟩ | ⟨hx, v, ys, e⟩
    · cases o <;> simp at e <;> simp_arith [hw, hm, ha, e, hx]
    · cases o <;> simp at e <;> simp_arith [hw, hm, ha, e, hx]
theorem own_names {R : RF} {ts : List T} (hR : ∀ u ∈ ts, R i4 [u] = .ok (.b (isNm u)) [u]) (hi : Its p ts) {t0 : T} :
    ∃ v, lcs p R (.one 1) [1] [] (.and (.call i4 [.var 1]) (.cmp .NotEq (.var 1) (.str "open"))) ts [] [t0, .un] = .ok (ts.map fun u => T.b (nmOk u)) [t0, v] := by
  have st : ∀ (u : T) (acc : List T) (ρ : Ev), acc.length < 1000 → (∃ v, ρ = [t0, v]) → u ∈ ts →
      ∃ ρ', lcSt p R (.one 1) [1] [] (.and (.call i4 [.var 1]) (.cmp .NotEq (.var 1) (.str "open"))) (id u) acc ρ = .ok (acc ++ (some (T.b (nmOk u))).toList) ρ' ∧ ∃ v, ρ' = [t0, v] := by
    rintro u acc ρ hacc ⟨v, rfl⟩ hm
    have e := hR u hm
    obtain ⟨h1, h2, h3⟩ := hi.2 u hm
    have hu := h1.un
    refine ⟨[t0, u], ?_, _, rfl⟩
    unfold lcSt
    cases e2 : isNm u with
    | false =>
      have e3 : nmOk u = false := by
        unfold nmOk
        unfold isNm at e2
        split
        · simp only at e2
          rw [e2]
          rfl
        · rfl
      simp_arith [hu, h2, e, e2, e3]
    | true =>
      obtain ⟨x, rfl⟩ : ∃ x, u = .s x := by
        unfold isNm at e2
        split at e2
        · exact ⟨_, rfl⟩
        · cases e2
      have e4 : isNameB x = true := e2
      have e5 := (isName_of e4).ok
      have e3 : nmOk (.s x) = !decide (x = "open") := by
        unfold nmOk
        simp [e4]
      simp_arith [e, e2, e3, e5]
  obtain ⟨ρ', e, v, rfl⟩ := lcs_mem 1000 st ts [] [t0, .un] (by simpa using hi.1) ⟨_, rfl⟩ (fun _ h => h)
  refine ⟨v, ?_⟩
  rw [List.map_id] at e
  rw [e, List.nil_append, fm_some]
theorem own_run (h : Tb[i]? = some (fOwnFits i2 i4 i5)) (h2 : Tb[i2]? = some fIsList) (h4 : Tb[i4]? = some fIsName) (h5 : Tb[i5]? = some fUnlike) (ht : Tgd p t) (hi : Its p (itsOf t)) (hn : 2 ≤ n := by omega) : run p Tb n i [t] = .ok (.b (ownB t)) [t] := by
  have e2 := isList_run (n := n - 1) h2 ht
  have hu := ht.un
  cases hl : isLs t with
  | false =>
    have e : ownB t = false := by
      unfold ownB
      rw [hl]
      rfl
    rw [hl] at e2
    rw [run_at [] h (by omega) rfl rfl]
    cases ho : ow t <;> simp_arith [hu, ho, e2, e]
  | true =>
    rw [hl] at e2
    obtain ⟨ts, hs⟩ : ∃ ts, Sq t ts := by
      unfold isLs at hl
      split at hl
      · exact ⟨_, .inl rfl⟩
      · exact ⟨_, .inr ⟨_, rfl⟩⟩
      · cases hl
    have hit : itsOf t = ts := by
      rcases hs with rfl | ⟨o, rfl⟩ <;> rfl
    rw [hit] at hi
    have hw := hi.ows
    have hR : ∀ u ∈ ts, run p Tb (n - 1) i4 [u] = .ok (.b (isNm u)) [u] := fun u hu => isName_run h4 (hi.2 u hu).1 (hi.2 u hu).2.2
    have eo : ownB t = (ts.all nmOk && decide ((ts.map strOf).Nodup)) := by
      unfold ownB
      rw [hl, hit, Bool.true_and]
    have hb : (ts.map fun u => T.b (nmOk u)) = ts.map fun u => T.b (nmOk u) := rfl
    have ha : (ts.map nmOk).all id = ts.all nmOk := by rw [List.all_map] <;> rfl
    rw [run_at [] h (by omega) rfl rfl, eo]
    cases hall : ts.all nmOk with
    | false =>
      rcases hs with rfl | ⟨o, rfl⟩
      · obtain ⟨v, e⟩ := own_names (p := p) (R := run p Tb (n - 1)) hR hi (t0 := .tup ts)
        simp_arith [ownE, hw, e2, e, hall]
      · obtain ⟨v, e⟩ := own_names (p := p) (R := run p Tb (n - 1)) hR hi (t0 := if o = true then .un else .nd .lst o ts)
        cases o <;> simp at e <;> simp_arith [ownE, hw, e2, e, hall]
    | true =>
      obtain ⟨n1, n2⟩ := nm_strs hall
      have e5 := unlike_run (p := p) (n := n - 1) (t := t) (xs := ts.map strOf) h5 (by simpa using hi.1) (by rw [← n1]; exact hs)
      rcases hs with rfl | ⟨o, rfl⟩
      · obtain ⟨v, e⟩ := own_names (p := p) (R := run p Tb (n - 1)) hR hi (t0 := .tup ts)
        simp_arith [ownE, hw, e2, e, hall, e5]
      · obtain ⟨v, e⟩ := own_names (p := p) (R := run p Tb (n - 1)) hR hi (t0 := if o = true then .un else .nd .lst o ts)
        cases o <;> simp at e <;> simp_arith [ownE, hw, e2, e, hall, e5]
end
end PL
set_option Elab.async false
set_option linter.all false
set_option maxRecDepth 100000
set_option maxHeartbeats 4000000
namespace PL
open PySem PySem.Spec PyProof.Rows L2
local macro_rules
  | `(tactic| simp_arith [$as,*]) => `(tactic| simp -implicitDefEqProofs (disch := omega) [$as,*])
def fRowFits (i0 i1 i3 i4 : Nat) : Fd := ⟨["row", "names", "begins", "name", "begin", "least", "most", "late"], 3, [
  .ite (.not (.call i3 [.var 0, .int 5])) [
    .ret (.bl false)] [],
  .asg (.tup [.one 3, .one 4, .one 5, .one 6, .one 7]) (.var 0),
  .ite (.or (.not (.call i4 [.var 3])) (.cmp .In (.var 3) (.var 1))) [
    .ret (.bl false)] [],
  .ite (.or (.not (.call i4 [.var 4])) (.cmp .NotIn (.var 4) (.var 2))) [
    .ret (.bl false)] [],
  .ite (.or (.not (.call i0 [.var 5])) (.or (.not (.call i0 [.var 6])) (.not (.chain .LtE .LtE (.int 1) (.var 5) (.var 6))))) [
    .ret (.bl false)] [],
  .ret (.or (.cmp .Is (.var 7) .non) (.call i1 [.var 7]))]⟩
def isNo : T → Bool
  | .lf .non => true
  | _ => false
def intOf : T → Int
  | .lf (.int k) => k
  | _ => 0
def row5 (ns bs : List Str) (a b c d e : T) : Bool := isNm a && !decide (strOf a ∈ ns) && isNm b && decide (strOf b ∈ bs) && isI c && isI d && decide (1 ≤ intOf c ∧ intOf c ≤ intOf d) && (isNo e || isNum e)
/-- a row of news, behind these names and begins -/
def rowB (ns bs : List Str) (t : T) : Bool := match itsOf t with
  | [a, b, c, d, e] => row5 ns bs a b c d e
  | _ => false
theorem isT_non {p : Px} {t : T} (h : Tgd p t) : isT t .n = some (isNo t) := by
  refine Tgd.cases (P := fun t => isT t .n = some (isNo t)) h ?_ ?_ ?_ ?_ ?_ ?_ ?_ ?_ ?_ ?_ ?_ ?_ <;> intros <;> rfl
theorem isNm_s {t : T} (h : isNm t = true) : t = .s (strOf t) := by
  unfold isNm at h
  split at h
  · rfl
  · cases h
theorem isI_i {t : T} (h : isI t = true) : t = .i (intOf t) := by
  unfold isI at h
  split at h
  · rfl
  · cases h
theorem rowN_no {ns bs : List Str} {t : T} (hr : rowN 5 t = false) : rowB ns bs t = false := by
  have gen : ∀ ts : List T, ¬ ts.length = 5 → (match ts with
    | [a, b, c, d, e] => row5 ns bs a b c d e
    | _ => false) = false := fun ts h => by
    split
    · exact absurd rfl h
    · rfl
  cases t with
  | tup ts => exact gen ts (of_decide_eq_false hr)
  | nd k o ts =>
    cases k with
    | lst => exact gen ts (of_decide_eq_false hr)
    | _ => rfl
  | _ => rfl
section
variable {p : Px} {Tb : List Fd} {n i i0 i1 i2 i3 i4 i12 : Nat} {t : T}
theorem row_run {on ob : Bool} {ns bs : List Str} (h : Tb[i]? = some (fRowFits i0 i1 i3 i4)) (h0 : Tb[i0]? = some fIsInt) (h1 : Tb[i1]? = some (fIsNum i0)) (h2 : Tb[i2]? = some fIsList) (h3 : Tb[i3]? = some (fIsRow i2)) (h4 : Tb[i4]? = some fIsName)
    (ht : Tgd p t) (ho : ow t = false) (hi : Its p (itsOf t)) (hl : ∀ o ts, t = .nd .lst o ts → ts.length ≠ 5) (hn : 3 ≤ n := by omega) : run p Tb n i [t, sT on ns, sT ob bs] = .ok (.b (rowB ns bs t)) [t, sT on ns, sT ob bs] := by
  have e3 := isRow_run (n := n - 1) (m := 5) (mi := 5) rfl h3 h2 ht
  have hu := ht.un
  cases hr : rowN 5 t with
  | false =>
    have e : rowB ns bs t = false := rowN_no hr
    rw [hr] at e3
    rw [run_at [3, 4, 5, 6, 7] h (by omega) rfl rfl, e]
    simp_arith [hu, ho, e3]
  | true =>
    rw [hr] at e3
    obtain ⟨a, b, c, d, e, rfl⟩ : ∃ a b c d e, t = .tup [a, b, c, d, e] := by
      unfold rowN at hr
      split at hr
      · rename_i ts
        have hr := of_decide_eq_true hr
        match ts, hr with
        | [a, b, c, d, e], _ => exact ⟨a, b, c, d, e, rfl⟩
      · rename_i o ts
        exact absurd (of_decide_eq_true hr) (hl _ _ rfl)
      · cases hr
    obtain ⟨ga, oa, la⟩ := hi.2 a (by simp [itsOf])
    obtain ⟨gb, ob1, lb⟩ := hi.2 b (by simp [itsOf])
    obtain ⟨gc, oc, lc⟩ := hi.2 c (by simp [itsOf])
    obtain ⟨gd, od, ld⟩ := hi.2 d (by simp [itsOf])
    obtain ⟨ge, oe, le⟩ := hi.2 e (by simp [itsOf])
    have ua := ga.un
    have ub := gb.un
    have uc := gc.un
    have ud := gd.un
    have ue := ge.un
    have ra := isName_run (n := n - 1) h4 ga la
    have rb := isName_run (n := n - 1) h4 gb lb
    have rc := isInt_run (n := n - 1) h0 gc
    have rd := isInt_run (n := n - 1) h0 gd
    have re := isNum_run (n := n - 1) h1 h0 ge
    have te := isT_non ge
    have eb : rowB ns bs (.tup [a, b, c, d, e]) = row5 ns bs a b c d e := rfl
    rw [run_at [3, 4, 5, 6, 7] h (by omega) rfl rfl, eb]
    unfold row5
    cases va : isNm a with
    | false => simp_arith [oa, ob1, oc, od, oe, ua, e3, ra, va]
    | true =>
      have wa := isNm_s va
      generalize strOf a = xa at wa ⊢
      subst wa
      by_cases ma : xa ∈ ns
      · simp_arith [oa, ob1, oc, od, oe, ua, e3, ra, va, ma]
      · cases vb : isNm b with
        | false => simp_arith [oa, ob1, oc, od, oe, ua, ub, e3, ra, va, ma, rb, vb]
        | true =>
          have wb := isNm_s vb
          generalize strOf b = xb at wb ⊢
          subst wb
          by_cases mb : xb ∈ bs
          · cases vc : isI c with
            | false => simp_arith [oa, ob1, oc, od, oe, ua, ub, uc, e3, ra, va, ma, rb, vb, mb, rc, vc]
            | true =>
              cases vd : isI d with
              | false => simp_arith [oa, ob1, oc, od, oe, ua, ub, uc, ud, e3, ra, va, ma, rb, vb, mb, rc, vc, rd, vd]
              | true =>
                have wc := isI_i vc
                generalize intOf c = kc at wc ⊢
                subst wc
                have wd := isI_i vd
                generalize intOf d = kd at wd ⊢
                subst wd
                by_cases m1 : 1 ≤ kc
                · by_cases m2 : kc ≤ kd
                  · cases ve : isNo e with
                    | true => simp_arith [oa, ob1, oc, od, oe, ua, ub, uc, ud, ue, e3, ra, va, ma, rb, vb, mb, rc, vc, rd, vd, m1, m2, te, ve]
                    | false => simp_arith [oa, ob1, oc, od, oe, ua, ub, uc, ud, ue, e3, ra, va, ma, rb, vb, mb, rc, vc, rd, vd, m1, m2, te, ve, re]
                  · simp_arith [oa, ob1, oc, od, oe, ua, ub, uc, ud, e3, ra, va, ma, rb, vb, mb, rc, vc, rd, vd, m1, m2]
                · simp_arith [oa, ob1, oc, od, oe, ua, ub, uc, ud, e3, ra, va, ma, rb, vb, mb, rc, vc, rd, vd, m1]
          · simp_arith [oa, ob1, oc, od, oe, ua, ub, e3, ra, va, ma, rb, vb, mb]
end
end PL
set_option Elab.async false
set_option linter.all false
set_option maxRecDepth 100000
set_option maxHeartbeats 4000000
namespace PL
open PySem PySem.Spec PyProof.Rows L2
local macro_rules
  | `(tactic| simp_arith [$as,*]) => `(tactic| simp -implicitDefEqProofs (disch := omega) [$as,*])
def newsF : List Cm := [
    .sub (.var 2) (.var 4) (.bl true),
    .sub (.var 3) (.var 4) (.bl true)]
def newsC (i12 : Nat) : List Cm := [
    .ite (.not (.call i12 [.var 6, .var 2, .var 3])) [
      .ret (.var 5)] [],
    .sub (.var 2) (.idx (.var 6) (.int 0)) (.bl true),
    .ite (.and (.cmp .IsNot (.idx (.var 6) (.int 4)) .non) (.cmp .Eq (.idx (.var 6) (.int 4)) (.int 0))) [
      .sub (.var 3) (.idx (.var 6) (.int 0)) (.bl true)] []]
def fWrongNews (i2 i12 : Nat) : Fd := ⟨["own", "news", "names", "begins", "name", "index", "row"], 2, [
  .ite (.not (.call i2 [.var 1])) [
    .ret (.int 0)] [],
  .asg (.one 2) (.dct [.str "open"] [.bl true]),
  .asg (.one 3) (.dct [.str "open"] [.bl true]),
  .fr (.one 4) .seq [.var 0] newsF,
  .fr (.tup [.one 5, .one 6]) .enum [.var 1] (newsC i12),
  .ret .non]⟩
def foldS (xs acc : List Str) : List Str := xs.foldl addS acc
theorem foldS_nodup : ∀ {xs acc : List Str}, acc.Nodup → (foldS xs acc).Nodup
  | [], _, h => h
  | x :: xs, acc, h => foldS_nodup (xs := xs) (addS_nodup h)
theorem foldS_len : ∀ {xs acc : List Str}, (foldS xs acc).length ≤ acc.length + xs.length
  | [], _ => by simp [foldS]
  | x :: xs, acc => by
    have h1 := foldS_len (xs := xs) (acc := addS acc x)
    have h2 := addS_len (xs := acc) (x := x)
    show (foldS xs (addS acc x)).length ≤ _
    simp
    omega
theorem foldS_mem {y : Str} : ∀ {xs acc : List Str}, y ∈ foldS xs acc ↔ y ∈ acc ∨ y ∈ xs
  | [], acc => by simp [foldS]
  | x :: xs, acc => by
    show y ∈ foldS xs (addS acc x) ↔ _
    rw [foldS_mem, addS_mem]
    simp [or_assoc]
def nth (k : Nat) (t : T) : T := (itsOf t).getD k .un
def isZ : T → Bool
  | .lf (.int k) => decide (k = 0)
  | _ => false
theorem isZ_i {t : T} (h : isZ t = true) : t = .i 0 := by
  unfold isZ at h
  split at h
  · rw [of_decide_eq_true h]
  · cases h
/-- the place of the first wrong row -/
def newsBad : List Str → List Str → Nat → List T → Option Nat
  | _, _, _, [] => none
  | ns, bs, k, r :: rs => if rowB ns bs r = true then newsBad (addS ns (strOf (nth 0 r))) (if isZ (nth 4 r) = true then addS bs (strOf (nth 0 r)) else bs) (k + 1) rs else some k
def optI : Option Nat → T
  | none => .n
  | some k => .i ((k : Nat) : Int)
/-- rows, right or wrong ones -/
def Rws (p : Px) (ts : List T) : Prop := ts.length ≤ 1000 ∧ ∀ u ∈ ts, Tgd p u ∧ ow u = false ∧ Its p (itsOf u) ∧ ∀ o us, u = .nd .lst o us → us.length ≠ 5 ∧ us.length ≠ 3
theorem Rws.ows {p : Px} {ts : List T} (h : Rws p ts) : ows ts = false := ows_all fun u hu => (h.2 u hu).2.1
theorem enumT_map : ∀ {ts : List T} {k : Nat}, enumT k ts = (ts.zipIdx k).map fun q => T.tup [.i ((q.2 : Nat) : Int), q.1]
  | [], _ => rfl
  | t :: ts, k => by
    show _ :: enumT (k + 1) ts = _
    rw [enumT_map (ts := ts)] <;> rfl
theorem rowB_tup {p : Px} {ns bs : List Str} {t : T} (h : rowB ns bs t = true) (hl : ∀ o ts, t = .nd .lst o ts → ts.length ≠ 5) : ∃ a b c d e, t = .tup [a, b, c, d, e] ∧ row5 ns bs a b c d e = true := by
  have gen : ∀ ts : List T, (match ts with
    | [a, b, c, d, e] => row5 ns bs a b c d e
    | _ => false) = true → ∃ a b c d e, ts = [a, b, c, d, e] ∧ row5 ns bs a b c d e = true := fun ts h => by
    split at h
    · exact ⟨_, _, _, _, _, rfl, h⟩
    · cases h
  cases t with
  | tup ts =>
    obtain ⟨a, b, c, d, e, rfl, h⟩ := gen ts h
    exact ⟨a, b, c, d, e, rfl, h⟩
  | nd k o ts =>
    cases k with
    | lst =>
      obtain ⟨a, b, c, d, e, rfl, h⟩ := gen ts h
      exact absurd rfl (hl _ _ rfl)
    | _ => cases h
  | _ => cases h
section
variable {p : Px} {Tb : List Fd} {n i i0 i1 i2 i3 i4 i12 : Nat} {t : T}
theorem newsF_run {R : RF} {XI : Nat → Option (List Str)} {xs : List Str} (hl : xs.length ≤ 1000) {t0 t1 t4 t5 t6 : T} :
    ∃ v, fvs p R XI (.one 4) newsF (xs.map .s) [t0, t1, sT true ["open"], sT true ["open"], t4, t5, t6] = .nx [t0, t1, sT true (foldS xs ["open"]), sT true (foldS xs ["open"]), v, t5, t6] := by
  let I : List Str → Ev → Prop := fun its ρ => ∃ acc v, foldS its acc = foldS xs ["open"] ∧ acc.Nodup ∧ acc.length + its.length ≤ 1001 ∧ ρ = [t0, t1, sT true acc, sT true acc, v, t5, t6]
  have st : ∀ (x : Str) (r : List Str) (ρ : Ev), I (x :: r) ρ → Turn p R XI (.one 4) newsF (.s x) ρ (I r) := by
    rintro x r ρ ⟨acc, v, e1, hd, hl, rfl⟩
    simp only [List.length_cons] at hl
    have hs := set_sT (x := x) (xs := acc) (by omega) hd
    have := addS_len (xs := acc) (x := x)
    refine turn_of rfl ⟨addS acc x, .s x, e1, addS_nodup hd, by omega, rfl⟩ ?_
    simp_arith [newsF, setV, hs]
  obtain ⟨ρ', e, acc, v, e1, _, _, rfl⟩ := fvs_map st xs [t0, t1, sT true ["open"], sT true ["open"], t4, t5, t6] ⟨["open"], t4, rfl, by simp, by simp; omega, rfl⟩
  have e2 : acc = foldS xs ["open"] := e1
  subst e2
  exact ⟨v, e⟩
theorem newsC_run {R : RF} {XI : Nat → Option (List Str)} {ts : List T} {ns0 bs0 : List Str} (hR : ∀ u ∈ ts, ∀ ns bs, R i12 [u, sT true ns, sT true bs] = .ok (.b (rowB ns bs u)) [u, sT true ns, sT true bs]) (hi : Rws p ts) (h1 : ns0.Nodup) (h2 : bs0.Nodup) (h3 : ns0.length ≤ 2000) (h4 : bs0.length ≤ 2000) {t0 t1 t4 t5 t6 : T} :
    ∃ ns bs v w, fvs p R XI (.tup [.one 5, .one 6]) (newsC i12) (enumT 0 ts) [t0, t1, sT true ns0, sT true bs0, t4, t5, t6] = (match newsBad ns0 bs0 0 ts with
      | none => .nx [t0, t1, sT true ns, sT true bs, t4, v, w]
      | some k => .rt (.i k) [t0, t1, sT true ns, sT true bs, t4, v, w]) := by
  let D : Fw → Prop := fun o => ∃ ns bs v w, o = (match newsBad ns0 bs0 0 ts with
      | none => .nx [t0, t1, sT true ns, sT true bs, t4, v, w]
      | some k => .rt (.i k) [t0, t1, sT true ns, sT true bs, t4, v, w])
  let I : List (T × Nat) → Ev → Prop := fun its ρ => ∃ k ns bs v w, its = (ts.drop k).zipIdx k ∧ k ≤ ts.length ∧ newsBad ns bs k (ts.drop k) = newsBad ns0 bs0 0 ts ∧ ns.Nodup ∧ bs.Nodup ∧ ns.length ≤ 2000 + k ∧ bs.length ≤ 2000 + k ∧ ρ = [t0, t1, sT true ns, sT true bs, t4, v, w]
  have st : ∀ (q : T × Nat) (r : List (T × Nat)) (ρ : Ev), I (q :: r) ρ → TurnD p R XI (.tup [.one 5, .one 6]) (newsC i12) (.tup [.i ((q.2 : Nat) : Int), q.1]) ρ (I r) D := by
    rintro q r ρ ⟨k, ns, bs, v, w, e1, hk, e2, d1, d2, l1, l2, rfl⟩
    have hk2 : k < ts.length := by
      rcases Nat.lt_or_eq_of_le hk with h | h
      · exact h
      · rw [h] at e1
        simp at e1
    rw [drop_cons hk2, List.zipIdx_cons] at e1
    rw [drop_cons hk2] at e2
    obtain ⟨rfl, rfl⟩ := List.cons.inj e1
    have hm : ts[k] ∈ ts := List.getElem_mem hk2
    generalize ts[k] = u at *
    have e := hR u hm ns bs
    obtain ⟨g1, g2, g3, g4⟩ := hi.2 u hm
    have gu := g1.un
    have hlen := hi.1
    refine ⟨[t0, t1, sT true ns, sT true bs, t4, .i k, u], by simp, ?_⟩
    cases hr : rowB ns bs u with
    | false =>
      refine .inr (.inl ⟨.i k, [t0, t1, sT true ns, sT true bs, t4, .i k, u], ?_, ns, bs, .i k, u, ?_⟩)
      · simp_arith [newsC, gu, g2, e, hr]
      · rw [← e2, newsBad, if_neg (by rw [hr]; decide)]
    | true =>
      obtain ⟨a, b, c, d, l, rfl, h5⟩ := rowB_tup (p := p) hr fun o ts e => (g4 o ts e).1
      unfold row5 at h5
      simp only [Bool.and_eq_true] at h5
      have wa := isNm_s h5.1.1.1.1.1.1.1
      obtain ⟨gl, ol, _⟩ := g3.2 l (by simp [itsOf])
      obtain ⟨ga, oa, _⟩ := g3.2 a (by simp [itsOf])
      obtain ⟨gb, ob, _⟩ := g3.2 b (by simp [itsOf])
      obtain ⟨gc, oc, _⟩ := g3.2 c (by simp [itsOf])
      obtain ⟨gd, od, _⟩ := g3.2 d (by simp [itsOf])
      have ul := gl.un
      have hno := isT_non gl
      have n0 : strOf (nth 0 (.tup [a, b, c, d, l])) = strOf a := rfl
      have n4 : nth 4 (.tup [a, b, c, d, l]) = l := rfl
      rw [newsBad, if_pos hr, n0, n4] at e2
      generalize strOf a = x at *
      subst wa
      have hs := set_sT (x := x) (xs := ns) (by omega) d1
      have hs2 := set_sT (x := x) (xs := bs) (by omega) d2
      have al := addS_len (xs := ns) (x := x)
      have al2 := addS_len (xs := bs) (x := x)
      by_cases hz : isZ l = true
      · rw [if_pos hz] at e2
        have hz := isZ_i hz
        subst hz
        refine .inl ⟨[t0, t1, sT true (addS ns x), sT true (addS bs x), t4, .i k, .tup [.s x, b, c, d, .i 0]], .inl ?_, k + 1, _, _, _, _, rfl, by omega, e2, addS_nodup d1, addS_nodup d2, by omega, by omega, rfl⟩
        simp_arith [newsC, oa, ob, oc, od, e, hr, setV, hs, hs2]
      · rw [if_neg hz] at e2
        refine .inl ⟨[t0, t1, sT true (addS ns x), sT true bs, t4, .i k, .tup [.s x, b, c, d, l]], .inl ?_, k + 1, _, _, _, _, rfl, by omega, e2, addS_nodup d1, d2, by omega, by omega, rfl⟩
        cases hn : isNo l with
        | true => simp_arith [newsC, oa, ob, oc, od, ol, ul, e, hr, setV, hs, hno, hn]
        | false =>
          obtain ⟨m, rfl⟩ : ∃ m, l = .i m := by
            have h6 : (isNo l || isNum l) = true := h5.2
            rw [hn, Bool.false_or] at h6
            unfold isNum at h6
            split at h6
            · exact ⟨_, rfl⟩
            · cases h6
          have hm0 : ¬ m = 0 := fun e => hz (decide_eq_true e)
          simp_arith [newsC, oa, ob, oc, od, e, hr, setV, hs, hm0]
  rw [enumT_map]
  exact fvs_D (D := D) st (by
    rintro ρ ⟨k, ns, bs, v, w, e1, hk, e2, d1, d2, l1, l2, rfl⟩
    have hk2 : k = ts.length := by
      have := congrArg List.length e1
      simp at this
      omega
    subst hk2
    refine ⟨ns, bs, v, w, ?_⟩
    rw [← e2]
    simp [newsBad]) (ts.zipIdx 0) _ ⟨0, ns0, bs0, _, _, rfl, Nat.zero_le _, rfl, h1, h2, by omega, by omega, rfl⟩
end
end PL
set_option Elab.async false
set_option linter.all false
set_option maxRecDepth 100000
set_option maxHeartbeats 4000000
namespace PL
open PySem PySem.Spec PyProof.Rows L2
local macro_rules
  | `(tactic| simp_arith [$as,*]) => `(tactic| simp -implicitDefEqProofs (disch := omega) [$as,*])
def rulesC (i0 i3 i4 : Nat) : List Cm := [
    .ite (.not (.call i3 [.var 3, .int 3])) [
      .ret (.var 2)] [],
    .asg (.tup [.one 4, .one 5, .one 6]) (.var 3),
    .ite (.or (.not (.call i4 [.var 4])) (.or (.not (.call i4 [.var 5])) (.not (.call i0 [.var 6])))) [
      .ret (.var 2)] [],
    .ite (.or (.cmp .Eq (.var 4) (.var 5)) (.or (.cmp .NotIn (.var 4) (.var 0)) (.cmp .NotIn (.var 5) (.var 0)))) [
      .ret (.var 2)] []]
def fWrongRules (i0 i2 i3 i4 : Nat) : Fd := ⟨["events", "rules", "index", "rule", "first", "second", "most"], 2, [
  .ite (.not (.call i2 [.var 1])) [
    .ret (.int 0)] [],
  .fr (.tup [.one 2, .one 3]) .enum [.var 1] (rulesC i0 i3 i4),
  .ret .non]⟩
def rule3 (es : List Str) (a b c : T) : Bool := isNm a && isNm b && isI c && !decide (strOf a = strOf b) && decide (strOf a ∈ es) && decide (strOf b ∈ es)
def ruleB (es : List Str) (t : T) : Bool := match itsOf t with
  | [a, b, c] => rule3 es a b c
  | _ => false
/-- the place of the first wrong rule -/
def rulesBad (es : List Str) : Nat → List T → Option Nat
  | _, [] => none
  | k, r :: rs => if ruleB es r = true then rulesBad es (k + 1) rs else some k
theorem rowN_no3 {es : List Str} {t : T} (hr : rowN 3 t = false) : ruleB es t = false := by
  have gen : ∀ ts : List T, ¬ ts.length = 3 → (match ts with
    | [a, b, c] => rule3 es a b c
    | _ => false) = false := fun ts h => by
    split
    · exact absurd rfl h
    · rfl
  cases t with
  | tup ts => exact gen ts (of_decide_eq_false hr)
  | nd k o ts =>
    cases k with
    | lst => exact gen ts (of_decide_eq_false hr)
    | _ => rfl
  | _ => rfl
theorem sq_of {t : T} (h : isLs t = true) : Sq t (itsOf t) := by
  unfold isLs at h
  split at h
  · exact .inl rfl
  · exact .inr ⟨_, rfl⟩
  · cases h
section
variable {p : Px} {Tb : List Fd} {n i i0 i1 i2 i3 i4 i12 : Nat} {t : T}
theorem wnews_run {own : T} {xs : List Str} (h : Tb[i]? = some (fWrongNews i2 i12)) (h2 : Tb[i2]? = some fIsList) (hR : ∀ u ∈ itsOf t, ∀ ns bs, run p Tb (n - 1) i12 [u, sT true ns, sT true bs] = .ok (.b (rowB ns bs u)) [u, sT true ns, sT true bs])
    (ho : Sq own (xs.map .s)) (hl : xs.length ≤ 1000) (ht : Tgd p t) (hi : Rws p (itsOf t)) (hT : ∀ ts, t ≠ .tup ts) (hn : 2 ≤ n := by omega) :
    run p Tb n i [own, t] = .ok (if isLs t = true then optI (newsBad (foldS xs ["open"]) (foldS xs ["open"]) 0 (itsOf t)) else .i 0) [own, t] := by
  have e2 := isList_run (n := n - 1) h2 ht
  have hu := ht.un
  have hw0 : ows (xs.map T.s) = false := ows_all fun u hu => by
    obtain ⟨y, _, rfl⟩ := List.mem_map.mp hu
    rfl
  have hm0 : menCs 0 newsF = false := by simp [newsF]
  have hm1 : menCs 1 (newsC i12) = false := by simp [newsC]
  have ha0 : asgSs newsF = [] := rfl
  have ha1 : asgSs (newsC i12) = [] := rfl
  have so : T.nd (.dct [.inr "open"]) true [.b true] = sT true ["open"] := rfl
  cases hl2 : isLs t with
  | false =>
    rw [hl2] at e2
    have hu2 : isUn own = false := by rcases ho with rfl | ⟨o, rfl⟩ <;> rfl
    rw [run_at [2, 3, 4, 5, 6] h (by omega) rfl rfl]
    cases ho2 : ow t <;> simp_arith [hu, hu2, ho2, e2]
  | true =>
    rw [hl2] at e2
    have hs := sq_of hl2
    have nd0 : (foldS xs ["open"]).Nodup := foldS_nodup (by simp)
    have l0 : (foldS xs ["open"]).length ≤ 2000 := by
      have := foldS_len (xs := xs) (acc := ["open"])
      simp at this
      omega
    have hw := hi.ows
    have hwe : ows (enumT 0 (itsOf t)) = false := by
      rw [enumT_map]
      refine ows_all fun u hu => ?_
      obtain ⟨q, hq, rfl⟩ := List.mem_map.mp hu
      have : q.1 ∈ itsOf t := by
        have := List.mem_zipIdx hq
        rw [this.2.2]
        exact List.getElem_mem _
      simp [(hi.2 _ this).2.1]
    rw [if_pos rfl]
    generalize itsOf t = ts at *
    have hs := hs.resolve_left (hT ts)
    rcases ho with rfl | ⟨o, rfl⟩ <;> obtain ⟨o2, rfl⟩ := hs
    · obtain ⟨v1, e4⟩ := newsF_run (p := p) (R := run p Tb (n - 1)) (XI := XIat Tb (n - 1)) hl (t0 := .tup (xs.map .s)) (t1 := .nd .lst o2 ts) (t4 := .un) (t5 := .un) (t6 := .un)
      obtain ⟨ns, bs, v, w, e5⟩ := newsC_run (p := p) (R := run p Tb (n - 1)) (XI := XIat Tb (n - 1)) hR hi nd0 nd0 l0 l0 (t0 := .tup (xs.map .s)) (t1 := if o2 = true then .un else .nd .lst o2 ts) (t4 := v1) (t5 := .un) (t6 := .un)
      rw [run_at [2, 3, 4, 5, 6] h (by omega) rfl rfl]
      cases hb : newsBad (foldS xs ["open"]) (foldS xs ["open"]) 0 ts <;> rw [hb] at e5 <;> cases o2 <;> simp at e5 <;> simp_arith [e2, hw0, hm0, ha0, ha1, so, e4, e5, hm1, hw, hwe, optI]
    · obtain ⟨v1, e4⟩ := newsF_run (p := p) (R := run p Tb (n - 1)) (XI := XIat Tb (n - 1)) hl (t0 := if o = true then .un else .nd .lst o (xs.map .s)) (t1 := .nd .lst o2 ts) (t4 := .un) (t5 := .un) (t6 := .un)
      obtain ⟨ns, bs, v, w, e5⟩ := newsC_run (p := p) (R := run p Tb (n - 1)) (XI := XIat Tb (n - 1)) hR hi nd0 nd0 l0 l0 (t0 := .nd .lst o (xs.map .s)) (t1 := if o2 = true then .un else .nd .lst o2 ts) (t4 := v1) (t5 := .un) (t6 := .un)
      rw [run_at [2, 3, 4, 5, 6] h (by omega) rfl rfl]
      cases hb : newsBad (foldS xs ["open"]) (foldS xs ["open"]) 0 ts <;> rw [hb] at e5 <;> cases o <;> cases o2 <;> simp at e4 e5 <;> simp_arith [e2, hw0, hm0, ha0, ha1, so, e4, e5, hm1, hw, hwe, optI]
theorem rule_turn {R : RF} {XI : Nat → Option (List Str)} {oe : Bool} {es : List Str} (he : ∀ y ∈ es, PyData.strOk y = true)
    (hR3 : ∀ u, Tgd p u → R i3 [u, .i 3] = .ok (.b (rowN 3 u)) [u, .i 3]) (hR4 : ∀ u, Tgd p u → (∀ x, u = .s x → x.length ≤ 1000) → R i4 [u] = .ok (.b (isNm u)) [u]) (hR0 : ∀ u, Tgd p u → R i0 [u] = .ok (.b (isI u)) [u])
    {u : T} (ht : Tgd p u) (ho : ow u = false) (hi : Its p (itsOf u)) (hl : ∀ o ts, u = .nd .lst o ts → ts.length ≠ 3) {k : Int} {t1 t4 t5 t6 : T} :
    ∃ v4 v5 v6, svs p R XI (rulesC i0 i3 i4) [.nd .lst oe (es.map .s), t1, .i k, u, t4, t5, t6] = (if ruleB es u = true then .nx [.nd .lst oe (es.map .s), t1, .i k, u, v4, v5, v6] else .rt (.i k) [.nd .lst oe (es.map .s), t1, .i k, u, v4, v5, v6]) := by
  have e3 := hR3 u ht
  have hu := ht.un
  cases hr : rowN 3 u with
  | false =>
    have e : ruleB es u = false := rowN_no3 hr
    rw [hr] at e3
    refine ⟨t4, t5, t6, ?_⟩
    rw [e, if_neg (by decide)]
    simp_arith [rulesC, hu, ho, e3]
  | true =>
    rw [hr] at e3
    obtain ⟨a, b, c, rfl⟩ : ∃ a b c, u = .tup [a, b, c] := by
      unfold rowN at hr
      split at hr
      · rename_i ts
        have hr := of_decide_eq_true hr
        match ts, hr with
        | [a, b, c], _ => exact ⟨a, b, c, rfl⟩
      · rename_i o ts
        exact absurd (of_decide_eq_true hr) (hl _ _ rfl)
      · cases hr
    obtain ⟨ga, oa, la⟩ := hi.2 a (by simp [itsOf])
    obtain ⟨gb, ob, lb⟩ := hi.2 b (by simp [itsOf])
    obtain ⟨gc, oc, lc⟩ := hi.2 c (by simp [itsOf])
    have ua := ga.un
    have ub := gb.un
    have uc := gc.un
    have ra := hR4 a ga la
    have rb := hR4 b gb lb
    have rc := hR0 c gc
    have eb : ruleB es (.tup [a, b, c]) = rule3 es a b c := rfl
    refine ⟨a, b, c, ?_⟩
    rw [eb]
    unfold rule3
    cases va : isNm a with
    | false => simp_arith [rulesC, oa, ob, oc, ua, e3, ra, va]
    | true =>
      cases vb : isNm b with
      | false => simp_arith [rulesC, oa, ob, oc, ua, ub, e3, ra, va, rb, vb]
      | true =>
        cases vc : isI c with
        | false => simp_arith [rulesC, oa, ob, oc, ua, ub, uc, e3, ra, va, rb, vb, rc, vc]
        | true =>
          have wa := isNm_s va
          have wb := isNm_s vb
          have xa : isNameB (strOf a) = true := by rw [wa] at va; exact va
          have xb : isNameB (strOf b) = true := by rw [wb] at vb; exact vb
          generalize strOf a = sa at *
          generalize strOf b = sb at *
          subst wa wb
          have ka := (isName_of xa).ok
          have kb := (isName_of xb).ok
          have ia := inT_strs (o := oe) ka he
          have ib := inT_strs (o := oe) kb he
          by_cases m1 : sa = sb
          · subst m1
            simp_arith [rulesC, oc, uc, e3, ra, va, rc, vc, ka]
          · by_cases m2 : sa ∈ es
            · by_cases m3 : sb ∈ es <;> simp_arith [rulesC, oc, uc, e3, ra, va, rb, vb, rc, vc, ka, kb, m1, m2, m3, ia, ib]
            · simp_arith [rulesC, oc, uc, e3, ra, va, rb, vb, rc, vc, ka, kb, m1, m2, ia]
theorem rulesC_run {R : RF} {XI : Nat → Option (List Str)} {oe : Bool} {es : List Str} {ts : List T} (he : ∀ y ∈ es, PyData.strOk y = true)
    (hR3 : ∀ u, Tgd p u → R i3 [u, .i 3] = .ok (.b (rowN 3 u)) [u, .i 3]) (hR4 : ∀ u, Tgd p u → (∀ x, u = .s x → x.length ≤ 1000) → R i4 [u] = .ok (.b (isNm u)) [u]) (hR0 : ∀ u, Tgd p u → R i0 [u] = .ok (.b (isI u)) [u])
    (hi : Rws p ts) {t1 t2 t3 t4 t5 t6 : T} :
    ∃ v w x y z, fvs p R XI (.tup [.one 2, .one 3]) (rulesC i0 i3 i4) (enumT 0 ts) [.nd .lst oe (es.map .s), t1, t2, t3, t4, t5, t6] = (match rulesBad es 0 ts with
      | none => .nx [.nd .lst oe (es.map .s), t1, v, w, x, y, z]
      | some k => .rt (.i k) [.nd .lst oe (es.map .s), t1, v, w, x, y, z]) := by
  let D : Fw → Prop := fun o => ∃ v w x y z, o = (match rulesBad es 0 ts with
      | none => .nx [.nd .lst oe (es.map .s), t1, v, w, x, y, z]
      | some k => .rt (.i k) [.nd .lst oe (es.map .s), t1, v, w, x, y, z])
  let I : List (T × Nat) → Ev → Prop := fun its ρ => ∃ k v w x y z, its = (ts.drop k).zipIdx k ∧ k ≤ ts.length ∧ rulesBad es k (ts.drop k) = rulesBad es 0 ts ∧ ρ = [.nd .lst oe (es.map .s), t1, v, w, x, y, z]
  have st : ∀ (q : T × Nat) (r : List (T × Nat)) (ρ : Ev), I (q :: r) ρ → TurnD p R XI (.tup [.one 2, .one 3]) (rulesC i0 i3 i4) (.tup [.i ((q.2 : Nat) : Int), q.1]) ρ (I r) D := by
    rintro q r ρ ⟨k, v, w, x, y, z, e1, hk, e2, rfl⟩
    have hk2 : k < ts.length := by
      rcases Nat.lt_or_eq_of_le hk with h | h
      · exact h
      · rw [h] at e1
        simp at e1
    rw [drop_cons hk2, List.zipIdx_cons] at e1
    rw [drop_cons hk2] at e2
    obtain ⟨rfl, rfl⟩ := List.cons.inj e1
    have hm : ts[k] ∈ ts := List.getElem_mem hk2
    generalize ts[k] = u at *
    obtain ⟨g1, g2, g3, g4⟩ := hi.2 u hm
    obtain ⟨v4, v5, v6, e⟩ := rule_turn (p := p) (R := R) (XI := XI) (oe := oe) (k := k) (t1 := t1) (t4 := x) (t5 := y) (t6 := z) he hR3 hR4 hR0 g1 g2 g3 fun o ts e => (g4 o ts e).2
    refine ⟨[.nd .lst oe (es.map .s), t1, .i k, u, x, y, z], by simp, ?_⟩
    rw [rulesBad] at e2
    cases hr : ruleB es u with
    | false =>
      rw [hr, if_neg (by decide)] at e2 e
      refine .inr (.inl ⟨.i k, _, e, ?_⟩)
      refine ⟨.i k, u, v4, v5, v6, ?_⟩
      rw [← e2]
    | true =>
      rw [hr, if_pos rfl] at e2 e
      exact .inl ⟨_, .inl e, k + 1, _, _, _, _, _, rfl, by omega, e2, rfl⟩
  rw [enumT_map]
  exact fvs_D (D := D) st (by
    rintro ρ ⟨k, v, w, x, y, z, e1, hk, e2, rfl⟩
    have hk2 : k = ts.length := by
      have := congrArg List.length e1
      simp at this
      omega
    subst hk2
    refine ⟨v, w, x, y, z, ?_⟩
    rw [← e2]
    simp [rulesBad]) (ts.zipIdx 0) _ ⟨0, _, _, _, _, _, rfl, Nat.zero_le _, rfl, rfl⟩
theorem wrules_run {oe : Bool} {es : List Str} (h : Tb[i]? = some (fWrongRules i0 i2 i3 i4)) (h0 : Tb[i0]? = some fIsInt) (h2 : Tb[i2]? = some fIsList) (h3 : Tb[i3]? = some (fIsRow i2)) (h4 : Tb[i4]? = some fIsName)
    (he : ∀ y ∈ es, PyData.strOk y = true) (ht : Tgd p t) (hi : Rws p (itsOf t)) (hT : ∀ ts, t ≠ .tup ts) (hn : 3 ≤ n := by omega) :
    run p Tb n i [.nd .lst oe (es.map .s), t] = .ok (if isLs t = true then optI (rulesBad es 0 (itsOf t)) else .i 0) [.nd .lst oe (es.map .s), t] := by
  have e2 := isList_run (n := n - 1) h2 ht
  have hu := ht.un
  cases hl2 : isLs t with
  | false =>
    rw [hl2] at e2
    rw [run_at [2, 3, 4, 5, 6] h (by omega) rfl rfl]
    cases ho2 : ow t <;> simp_arith [hu, ho2, e2]
  | true =>
    rw [hl2] at e2
    have hs := sq_of hl2
    have hw := hi.ows
    have hwe : ows (enumT 0 (itsOf t)) = false := by
      rw [enumT_map]
      refine ows_all fun u hu => ?_
      obtain ⟨q, hq, rfl⟩ := List.mem_map.mp hu
      have : q.1 ∈ itsOf t := by
        have := List.mem_zipIdx hq
        rw [this.2.2]
        exact List.getElem_mem _
      simp [(hi.2 _ this).2.1]
    have hm1 : menCs 1 (rulesC i0 i3 i4) = false := by simp [rulesC]
    have ha1 : asgSs (rulesC i0 i3 i4) = [4, 5, 6] := rfl
    rw [if_pos rfl]
    generalize itsOf t = ts at *
    obtain ⟨o2, rfl⟩ := hs.resolve_left (hT ts)
    obtain ⟨v, w, x, y, z, e5⟩ := rulesC_run (p := p) (R := run p Tb (n - 1)) (XI := XIat Tb (n - 1)) (oe := oe) he (fun u hu => isRow_run (m := 3) rfl h3 h2 hu) (fun u hu hl => isName_run h4 hu hl) (fun u hu => isInt_run h0 hu) hi (t1 := if o2 = true then .un else .nd .lst o2 ts) (t2 := .un) (t3 := .un) (t4 := .un) (t5 := .un) (t6 := .un)
    rw [run_at [2, 3, 4, 5, 6] h (by omega) rfl rfl]
    cases hb : rulesBad es 0 ts <;> rw [hb] at e5 <;> cases o2 <;> simp at e5 <;> simp_arith [e2, ha1, e5, hm1, hw, hwe, optI]
end
end PL
set_option Elab.async false
set_option linter.all false
set_option maxRecDepth 100000
set_option maxHeartbeats 4000000
namespace PL
open PySem PySem.Spec PyProof.Rows L2
local macro_rules
  | `(tactic| simp_arith [$as,*]) => `(tactic| simp -implicitDefEqProofs (disch := omega) [$as,*])
def fErr (f : Str) : Fd := ⟨["self", f], 2, [.fld (.var 0) f (.var 1)]⟩
theorem xi_err {f : Str} : xiOf (fErr f) = some [f] := rfl
def fDayInit (i1 i11 i13 i14 x1 x2 x3 x4 : Nat) : Fd := ⟨["self", "closing", "own", "news", "rules", "at", "events", "row", "rule"], 5, [
  .ite (.not (.call i1 [.var 1])) [
    .raise "BadClosing" x1 [.var 1]] [],
  .ite (.not (.call i11 [.var 2])) [
    .raise "BadOwn" x2 [.var 2]] [],
  .asg (.one 5) (.call i13 [.var 2, .var 3]),
  .ite (.cmp .IsNot (.var 5) .non) [
    .raise "BadNews" x3 [.var 5]] [],
  .asg (.one 6) (.bin .Add (.bin .Add (.lst [.str "open"]) (.blt .list [.var 2])) (.lc (.idx (.var 7) (.int 0)) (.one 7) .seq [.var 3] [] [7])),
  .asg (.one 5) (.call i14 [.var 6, .var 4]),
  .ite (.cmp .IsNot (.var 5) .non) [
    .raise "BadRules" x4 [.var 5]] [],
  .fld (.var 0) "_closing" (.var 1),
  .fld (.var 0) "_own" (.blt .list [.var 2]),
  .fld (.var 0) "_news" (.lc (.blt .tuple [.var 7]) (.one 7) .seq [.var 3] [] [7]),
  .fld (.var 0) "_rules" (.lc (.blt .tuple [.var 8]) (.one 8) .seq [.var 4] [] [8]),
  .fld (.var 0) "_events" (.var 6)]⟩
def DF : List Str := ["_closing", "_own", "_news", "_rules", "_events"]
/-- a Day -/
def dayT (o : Bool) (cl : Int) (own : List Str) (news rules : List T) : T := .nd (.obj "Day" DF) o [.i cl, .nd .lst o (own.map .s), .nd .lst o news, .nd .lst o rules, .nd .lst false ((("open" : Str) :: (own ++ news.map fun r => strOf (nth 0 r))).map .s)]
structure DayPx (p : Px) : Prop where
  cls : ("Day" : Str) ∈ p.cls
  a1 : okAt p "Day" "_closing" = true
  a2 : okAt p "Day" "_own" = true
  a3 : okAt p "Day" "_news" = true
  a4 : okAt p "Day" "_rules" = true
  a5 : okAt p "Day" "_events" = true
  r1 : raiseOk p "BadClosing" ["closing"] 1 = true
  r2 : raiseOk p "BadOwn" ["own"] 1 = true
  r3 : raiseOk p "BadNews" ["index"] 1 = true
  r4 : raiseOk p "BadRules" ["index"] 1 = true
  r5 : raiseOk p "BadDay" ["day"] 1 = true
theorem news_none : ∀ {ts : List T} {ns bs : List Str} {k : Nat} {p : Px}, Rws p ts → newsBad ns bs k ts = none → ∀ u ∈ ts, ∃ x b c d e, u = .tup [.s x, b, c, d, e] ∧ isNameB x = true
  | [], _, _, _, _, _, _, _, h => nomatch h
  | t :: ts, ns, bs, k, p, hr, h, u, hu => by
    rw [newsBad] at h
    by_cases c : rowB ns bs t = true
    · rw [if_pos c] at h
      rcases List.mem_cons.mp hu with rfl | hu
      · obtain ⟨a, b, c2, d, e, rfl, h5⟩ := rowB_tup (p := p) c fun o ts e => ((hr.2 u List.mem_cons_self).2.2.2 o ts e).1
        unfold row5 at h5
        simp only [Bool.and_eq_true] at h5
        have va := h5.1.1.1.1.1.1.1
        have wa := isNm_s va
        have xa : isNameB (strOf a) = true := by rw [wa] at va; exact va
        exact ⟨strOf a, b, c2, d, e, by rw [← wa], xa⟩
      · exact news_none (p := p) ⟨by have := hr.1; simp at this; omega, fun v hv => hr.2 v (List.mem_cons_of_mem _ hv)⟩ h u hu
    · rw [if_neg c] at h
      cases h
theorem rules_none : ∀ {ts : List T} {es : List Str} {k : Nat} {p : Px}, Rws p ts → rulesBad es k ts = none → ∀ u ∈ ts, ∃ us, u = .tup us
  | [], _, _, _, _, _, _, h => nomatch h
  | t :: ts, es, k, p, hr, h, u, hu => by
    rw [rulesBad] at h
    by_cases c : ruleB es t = true
    · rw [if_pos c] at h
      rcases List.mem_cons.mp hu with rfl | hu
      · cases u with
        | tup us => exact ⟨us, rfl⟩
        | nd kd o us =>
          cases kd with
          | lst =>
            have := ((hr.2 _ List.mem_cons_self).2.2.2 o us rfl).2
            unfold ruleB at c
            split at c
            · rename_i e
              rw [show us = _ from e] at this
              exact absurd rfl this
            · cases c
          | _ => cases c
        | _ => cases c
      · exact rules_none (p := p) ⟨by have := hr.1; simp at this; omega, fun v hv => hr.2 v (List.mem_cons_of_mem _ hv)⟩ h u hu
    · rw [if_neg c] at h
      cases h
/-- what making a day comes to -/
def dayRes (cl own news rules : T) : Rc :=
  if isNum cl = false then .ex "BadClosing" (xdOf ["closing"] [fz cl])
  else if ownB own = false then .ex "BadOwn" (xdOf ["own"] [fz own])
  else if isLs news = false then .ex "BadNews" (xdOf ["index"] [.i 0])
  else match newsBad (foldS ((itsOf own).map strOf) ["open"]) (foldS ((itsOf own).map strOf) ["open"]) 0 (itsOf news) with
    | some k => .ex "BadNews" (xdOf ["index"] [.i k])
    | none => if isLs rules = false then .ex "BadRules" (xdOf ["index"] [.i 0])
      else match rulesBad (("open" : Str) :: ((itsOf own).map strOf ++ (itsOf news).map fun r => strOf (nth 0 r))) 0 (itsOf rules) with
        | some k => .ex "BadRules" (xdOf ["index"] [.i k])
        | none => .ok .n [dayT true (intOf cl) ((itsOf own).map strOf) (itsOf news) (itsOf rules), cl, own, news, rules]
section
variable {p : Px} {Tb : List Fd} {n i i0 i1 i2 i3 i4 i5 i11 i12 i13 i14 x1 x2 x3 x4 : Nat}
theorem row_tuples {R : RF} {ts : List T} (ht : ∀ u ∈ ts, ∃ us, u = .tup us) (ho : ows ts = false) (hl : ts.length ≤ 1000) {t0 t1 t2 t3 t4 t5 t6 t7 t8 : T} :
    ∃ v, lcs p R (.one 7) [7] [] (.blt .tuple [.var 7]) ts [] [t0, t1, t2, t3, t4, t5, t6, t7, t8] = .ok ts [t0, t1, t2, t3, t4, t5, t6, v, t8] := by
  have st : ∀ (u : T) (acc : List T) (ρ : Ev), acc.length < 1000 → (∃ v, ρ = [t0, t1, t2, t3, t4, t5, t6, v, t8]) → u ∈ ts →
      ∃ ρ', lcSt p R (.one 7) [7] [] (.blt .tuple [.var 7]) (id u) acc ρ = .ok (acc ++ (some u).toList) ρ' ∧ ∃ v, ρ' = [t0, t1, t2, t3, t4, t5, t6, v, t8] := by
    rintro u acc ρ hacc ⟨v, rfl⟩ hm
    obtain ⟨us, rfl⟩ := ht u hm
    have hw : ows us = false := ows_at ho hm
    refine ⟨[t0, t1, t2, t3, t4, t5, t6, .tup us, t8], ?_, _, rfl⟩
    unfold lcSt
    simp_arith [hw]
  obtain ⟨ρ', e, v, rfl⟩ := lcs_mem 1000 st ts [] [t0, t1, t2, t3, t4, t5, t6, t7, t8] (by simpa using hl) ⟨_, rfl⟩ (fun _ h => h)
  refine ⟨v, ?_⟩
  rw [List.map_id] at e
  rw [e, List.nil_append, fm_some, List.map_id']
theorem rule_tuples {R : RF} {ts : List T} (ht : ∀ u ∈ ts, ∃ us, u = .tup us) (ho : ows ts = false) (hl : ts.length ≤ 1000) {t0 t1 t2 t3 t4 t5 t6 t7 t8 : T} :
    ∃ v, lcs p R (.one 8) [8] [] (.blt .tuple [.var 8]) ts [] [t0, t1, t2, t3, t4, t5, t6, t7, t8] = .ok ts [t0, t1, t2, t3, t4, t5, t6, t7, v] := by
  have st : ∀ (u : T) (acc : List T) (ρ : Ev), acc.length < 1000 → (∃ v, ρ = [t0, t1, t2, t3, t4, t5, t6, t7, v]) → u ∈ ts →
      ∃ ρ', lcSt p R (.one 8) [8] [] (.blt .tuple [.var 8]) (id u) acc ρ = .ok (acc ++ (some u).toList) ρ' ∧ ∃ v, ρ' = [t0, t1, t2, t3, t4, t5, t6, t7, v] := by
    rintro u acc ρ hacc ⟨v, rfl⟩ hm
    obtain ⟨us, rfl⟩ := ht u hm
    have hw : ows us = false := ows_at ho hm
    refine ⟨[t0, t1, t2, t3, t4, t5, t6, t7, .tup us], ?_, _, rfl⟩
    unfold lcSt
    simp_arith [hw]
  obtain ⟨ρ', e, v, rfl⟩ := lcs_mem 1000 st ts [] [t0, t1, t2, t3, t4, t5, t6, t7, t8] (by simpa using hl) ⟨_, rfl⟩ (fun _ h => h)
  refine ⟨v, ?_⟩
  rw [List.map_id] at e
  rw [e, List.nil_append, fm_some, List.map_id']
theorem row_names {R : RF} {ts : List T} (ht : ∀ u ∈ ts, ∃ x b c d e, u = .tup [.s x, b, c, d, e] ∧ isNameB x = true) (ho : ows ts = false) (hl : ts.length ≤ 1000) {t0 t1 t2 t3 t4 t5 t6 t7 t8 : T} :
    ∃ v, lcs p R (.one 7) [7] [] (.idx (.var 7) (.int 0)) ts [] [t0, t1, t2, t3, t4, t5, t6, t7, t8] = .ok (ts.map fun r => T.s (strOf (nth 0 r))) [t0, t1, t2, t3, t4, t5, t6, v, t8] := by
  have st : ∀ (u : T) (acc : List T) (ρ : Ev), acc.length < 1000 → (∃ v, ρ = [t0, t1, t2, t3, t4, t5, t6, v, t8]) → u ∈ ts →
      ∃ ρ', lcSt p R (.one 7) [7] [] (.idx (.var 7) (.int 0)) (id u) acc ρ = .ok (acc ++ (some (T.s (strOf (nth 0 u)))).toList) ρ' ∧ ∃ v, ρ' = [t0, t1, t2, t3, t4, t5, t6, v, t8] := by
    rintro u acc ρ hacc ⟨v, rfl⟩ hm
    obtain ⟨x, b, c, d, e, rfl, _⟩ := ht u hm
    have hw : ows [T.s x, b, c, d, e] = false := ows_at ho hm
    refine ⟨[t0, t1, t2, t3, t4, t5, t6, .tup [.s x, b, c, d, e], t8], ?_, _, rfl⟩
    unfold lcSt
    simp only [z_ows_c, z_ows_n, Bool.or_eq_false_iff] at hw
    simp_arith [hw, nth, itsOf, strOf]
  obtain ⟨ρ', e, v, rfl⟩ := lcs_mem 1000 st ts [] [t0, t1, t2, t3, t4, t5, t6, t7, t8] (by simpa using hl) ⟨_, rfl⟩ (fun _ h => h)
  refine ⟨v, ?_⟩
  rw [List.map_id] at e
  rw [e, List.nil_append, fm_some]
end
end PL
set_option Elab.async false
set_option linter.all false
set_option maxRecDepth 100000
set_option maxHeartbeats 4000000
namespace PL
open PySem PySem.Spec PyProof.Rows L2
local macro_rules
  | `(tactic| simp_arith [$as,*]) => `(tactic| simp -implicitDefEqProofs (disch := omega) [$as,*])
@[simp] theorem fz_fz {t : T} : fz (fz t) = fz t := fz_id _ (ow_fz t)
section
variable {p : Px} {Tb : List Fd} {n i i0 i1 i2 i3 i4 i5 i11 i12 i13 i14 x1 x2 x3 x4 : Nat}
theorem dayInit_run {cl own news rules : T} (dp : DayPx p) (h : Tb[i]? = some (fDayInit i1 i11 i13 i14 x1 x2 x3 x4)) (h0 : Tb[i0]? = some fIsInt) (h1 : Tb[i1]? = some (fIsNum i0)) (h2 : Tb[i2]? = some fIsList) (h3 : Tb[i3]? = some (fIsRow i2)) (h4 : Tb[i4]? = some fIsName) (h5 : Tb[i5]? = some fUnlike)
    (h11 : Tb[i11]? = some (fOwnFits i2 i4 i5)) (h12 : Tb[i12]? = some (fRowFits i0 i1 i3 i4)) (h13 : Tb[i13]? = some (fWrongNews i2 i12)) (h14 : Tb[i14]? = some (fWrongRules i0 i2 i3 i4)) (hx1 : Tb[x1]? = some (fErr "closing")) (hx2 : Tb[x2]? = some (fErr "own")) (hx3 : Tb[x3]? = some (fErr "index")) (hx4 : Tb[x4]? = some (fErr "index"))
    (gc : Tgd p cl) (go : Tgd p own) (ho : Its p (itsOf own)) (gn : Tgd p news) (hn : Rws p (itsOf news)) (tn : ∀ ts, news ≠ .tup ts) (gr : Tgd p rules) (hr : Rws p (itsOf rules)) (tr : ∀ ts, rules ≠ .tup ts) (hd : 6 ≤ n := by omega) :
    run p Tb n i [.nd (.obj "Day" []) true [], cl, own, news, rules] = dayRes cl own news rules := by
  have y1 := xi_at (n := n - 1) hx1 (by omega) xi_err
  have y2 := xi_at (n := n - 1) hx2 (by omega) xi_err
  have y3 := xi_at (n := n - 1) hx3 (by omega) xi_err
  have y4 := xi_at (n := n - 1) hx4 (by omega) xi_err
  have e1 := isNum_run (n := n - 1) h1 h0 gc
  have e2 := own_run (n := n - 1) h11 h2 h4 h5 go ho
  have r1 := dp.r1
  have r2 := dp.r2
  have r3 := dp.r3
  have r4 := dp.r4
  have uc := gc.un
  have uo := go.un
  have un := gn.un
  have ur := gr.un
  unfold dayRes
  cases c1 : isNum cl with
  | false =>
    rw [if_pos rfl]
    rw [run_at [5, 6, 5] h (by omega) rfl rfl]
    cases o1 : ow cl <;> simp_arith [uc, o1, e1, c1, y1, r1, xdOf]
  | true =>
    rw [if_neg (by decide)]
    obtain ⟨k, rfl⟩ : ∃ k, cl = .i k := by
      unfold isNum at c1
      split at c1
      · exact ⟨_, rfl⟩
      · cases c1
    cases c2 : ownB own with
    | false =>
      rw [if_pos rfl]
      rw [run_at [5, 6, 5] h (by omega) rfl rfl]
      cases o2 : ow own <;> simp_arith [uo, o2, e1, c1, y2, r2, xdOf, e2, c2]
    | true =>
      rw [if_neg (by decide)]
      have so : Sq own (itsOf own) := sq_of (by
        unfold ownB at c2
        simp only [Bool.and_eq_true] at c2
        exact c2.1.1)
      obtain ⟨n1, n2⟩ := nm_strs (by
        unfold ownB at c2
        simp only [Bool.and_eq_true] at c2
        exact c2.1.2 : (itsOf own).all nmOk = true)
      have l1 : ((itsOf own).map strOf).length ≤ 1000 := by simpa using ho.1
      generalize (itsOf own).map strOf = xs at *
      rw [n1] at so
      have e3 := wnews_run (n := n - 1) (t := news) h13 h2 (fun u hu ns bs => row_run (n := n - 1 - 1) h12 h0 h1 h2 h3 h4 (hn.2 u hu).1 (hn.2 u hu).2.1 (hn.2 u hu).2.2.1 fun o ts e => ((hn.2 u hu).2.2.2 o ts e).1) so l1 gn hn tn
      cases c3 : isLs news with
      | false =>
        rw [c3, if_neg (by decide)] at e3
        rw [if_pos rfl]
        rw [run_at [5, 6, 5] h (by omega) rfl rfl]
        cases o2 : ow own <;> cases o3 : ow news <;> simp_arith [uo, un, o2, o3, e1, c1, y3, r3, xdOf, e2, c2, e3]
      | true =>
        rw [c3, if_pos rfl] at e3
        rw [if_neg (by decide)]
        cases c4 : newsBad (foldS xs ["open"]) (foldS xs ["open"]) 0 (itsOf news) with
        | some k2 =>
          rw [c4] at e3
          rw [run_at [5, 6, 5] h (by omega) rfl rfl]
          cases o2 : ow own <;> cases o3 : ow news <;> simp_arith [uo, un, o2, o3, e1, c1, y3, r3, xdOf, e2, c2, e3, optI]
        | none =>
          rw [c4] at e3
          have sn := (sq_of c3).resolve_left (tn _)
          have nn := news_none (p := p) hn c4
          have hw := hn.ows
          generalize itsOf news = ns at *
          have hes : ∀ y ∈ ("open" : Str) :: (xs ++ ns.map fun r => strOf (nth 0 r)), PyData.strOk y = true := fun y hy => by
            rcases List.mem_cons.mp hy with rfl | hy
            · exact z_strOk_open
            · rcases List.mem_append.mp hy with hy | hy
              · exact (isName_of (n2 y hy).1).ok
              · obtain ⟨u, hu, rfl⟩ := List.mem_map.mp hy
                obtain ⟨x, b, c, d, e, rfl, hx⟩ := nn u hu
                exact (isName_of hx).ok
          have e4 := wrules_run (n := n - 1) (oe := true) (t := rules) h14 h0 h2 h3 h4 hes gr hr tr
          have eE : T.nd .lst true ((("open" : Str) :: (xs ++ ns.map fun r => strOf (nth 0 r))).map T.s) = T.nd .lst true (T.s "open" :: (xs.map T.s ++ ns.map fun r => T.s (strOf (nth 0 r)))) := by simp
          have hl2 := hn.1
          obtain ⟨o3, rfl⟩ := sn
          generalize hE : ("open" : Str) :: (xs ++ ns.map fun r => strOf (nth 0 r)) = es at *
          have hwx : ows (xs.map T.s) = false := ows_all fun u hu => by
            obtain ⟨y, _, rfl⟩ := List.mem_map.mp hu
            rfl
          cases c5 : isLs rules with
          | false =>
            rw [c5, if_neg (by decide), eE] at e4
            rw [if_pos rfl]
            rw [run_at [5, 6, 5] h (by omega) rfl rfl]
            rcases so with rfl | ⟨o2, rfl⟩
            · obtain ⟨v, e5⟩ := row_names (p := p) (R := run p Tb (n - 1)) nn hw hl2 (t0 := .nd (.obj "Day" []) true []) (t1 := .i k) (t2 := .tup (xs.map .s)) (t3 := if o3 = true then .un else .nd .lst o3 ns) (t4 := rules) (t5 := .n) (t6 := .un) (t7 := .un) (t8 := .un)
              cases o3 <;> cases o4 : ow rules <;> simp at e5 <;> simp_arith [ur, o4, e1, c1, y4, r4, xdOf, e2, c2, e3, e4, e5, hw, hwx, optI]
            · obtain ⟨v, e5⟩ := row_names (p := p) (R := run p Tb (n - 1)) nn hw hl2 (t0 := .nd (.obj "Day" []) true []) (t1 := .i k) (t2 := .nd .lst o2 (xs.map .s)) (t3 := if o3 = true then .un else .nd .lst o3 ns) (t4 := rules) (t5 := .n) (t6 := .un) (t7 := .un) (t8 := .un)
              cases o2 <;> cases o3 <;> cases o4 : ow rules <;> simp at e5 <;> simp_arith [ur, o4, e1, c1, y4, r4, xdOf, e2, c2, e3, e4, e5, hw, hwx, optI]
          | true =>
            rw [if_neg (by decide)]
            rw [c5, if_pos rfl, eE] at e4
            have sr := (sq_of c5).resolve_left (tr _)
            have hwr := hr.ows
            have hl3 := hr.1
            have a1 := dp.a1
            have a2 := dp.a2
            have a3 := dp.a3
            have a4 := dp.a4
            have a5 := dp.a5
            have w1 : ("_closing" : Str) ≠ "_own" := by decide +kernel
            have w2 : ("_closing" : Str) ≠ "_news" := by decide +kernel
            have w3 : ("_closing" : Str) ≠ "_rules" := by decide +kernel
            have w4 : ("_closing" : Str) ≠ "_events" := by decide +kernel
            have w5 : ("_own" : Str) ≠ "_news" := by decide +kernel
            have w6 : ("_own" : Str) ≠ "_rules" := by decide +kernel
            have w7 : ("_own" : Str) ≠ "_events" := by decide +kernel
            have w8 : ("_news" : Str) ≠ "_rules" := by decide +kernel
            have w9 : ("_news" : Str) ≠ "_events" := by decide +kernel
            have w0 : ("_rules" : Str) ≠ "_events" := by decide +kernel
            have q1 : ∀ (t u1 : T), putFd "_own" t ["_closing"] [u1] = ((["_closing", "_own"] : List Str), [u1, t]) := by intros; simp [putFd, w1, w2, w3, w4, w5, w6, w7, w8, w9, w0]
            have q2 : ∀ (t u1 u2 : T), putFd "_news" t ["_closing", "_own"] [u1, u2] = ((["_closing", "_own", "_news"] : List Str), [u1, u2, t]) := by intros; simp [putFd, w1, w2, w3, w4, w5, w6, w7, w8, w9, w0]
            have q3 : ∀ (t u1 u2 u3 : T), putFd "_rules" t ["_closing", "_own", "_news"] [u1, u2, u3] = ((["_closing", "_own", "_news", "_rules"] : List Str), [u1, u2, u3, t]) := by intros; simp [putFd, w1, w2, w3, w4, w5, w6, w7, w8, w9, w0]
            have q4 : ∀ (t u1 u2 u3 u4 : T), putFd "_events" t ["_closing", "_own", "_news", "_rules"] [u1, u2, u3, u4] = ((["_closing", "_own", "_news", "_rules", "_events"] : List Str), [u1, u2, u3, u4, t]) := by intros; simp [putFd, w1, w2, w3, w4, w5, w6, w7, w8, w9, w0]
            have ic : intOf (.i k) = k := rfl
            have fzn : fzs (ns.map fun r => T.s (strOf (nth 0 r))) = ns.map fun r => T.s (strOf (nth 0 r)) := fzs_all fun t ht => by
              obtain ⟨y, _, rfl⟩ := List.mem_map.mp ht
              rfl
            have ntup : ∀ u ∈ ns, ∃ us, u = .tup us := fun u hu => by
              obtain ⟨x, b, c, d, e, rfl, _⟩ := nn u hu
              exact ⟨_, rfl⟩
            have fx : ∀ a b : List T, fzs (a ++ b) = fzs a ++ fzs b := fun a b => by
              rw [fzs_map, fzs_map, fzs_map, List.map_append]
            cases c6 : rulesBad es 0 (itsOf rules) with
            | some k2 =>
              rw [c6] at e4
              rw [run_at [5, 6, 5] h (by omega) rfl rfl]
              generalize itsOf rules = rs at *
              obtain ⟨o4, rfl⟩ := sr
              rcases so with rfl | ⟨o2, rfl⟩
              · obtain ⟨v, e5⟩ := row_names (p := p) (R := run p Tb (n - 1)) nn hw hl2 (t0 := .nd (.obj "Day" []) true []) (t1 := .i k) (t2 := .tup (xs.map .s)) (t3 := if o3 = true then .un else .nd .lst o3 ns) (t4 := .nd .lst o4 rs) (t5 := .n) (t6 := .un) (t7 := .un) (t8 := .un)
                cases o3 <;> cases o4 <;> simp at e5 <;> simp_arith [e1, c1, y4, r4, xdOf, e2, c2, e3, e4, e5, hw, hwx, optI]
              · obtain ⟨v, e5⟩ := row_names (p := p) (R := run p Tb (n - 1)) nn hw hl2 (t0 := .nd (.obj "Day" []) true []) (t1 := .i k) (t2 := .nd .lst o2 (xs.map .s)) (t3 := if o3 = true then .un else .nd .lst o3 ns) (t4 := .nd .lst o4 rs) (t5 := .n) (t6 := .un) (t7 := .un) (t8 := .un)
                cases o2 <;> cases o3 <;> cases o4 <;> simp at e5 <;> simp_arith [e1, c1, y4, r4, xdOf, e2, c2, e3, e4, e5, hw, hwx, optI]
            | none =>
              rw [c6] at e4
              have rr := rules_none (p := p) hr c6
              rw [run_at [5, 6, 5] h (by omega) rfl rfl]
              show _ = Rc.ok .n [dayT true k xs ns (itsOf rules), .i k, own, .nd .lst o3 ns, rules]
              generalize itsOf rules = rs at *
              obtain ⟨o4, rfl⟩ := sr
              have eD : dayT true k xs ns rs = .nd (.obj "Day" DF) true [.i k, .nd .lst true (xs.map .s), .nd .lst true ns, .nd .lst true rs, .nd .lst false (T.s "open" :: (xs.map T.s ++ ns.map fun r => T.s (strOf (nth 0 r))))] := by
                unfold dayT
                simp
              rw [eD]
              unfold DF
              rcases so with rfl | ⟨o2, rfl⟩
              · obtain ⟨v, e5⟩ := row_names (p := p) (R := run p Tb (n - 1)) nn hw hl2 (t0 := .nd (.obj "Day" []) true []) (t1 := .i k) (t2 := .tup (xs.map .s)) (t3 := if o3 = true then .un else .nd .lst o3 ns) (t4 := .nd .lst o4 rs) (t5 := .n) (t6 := .un) (t7 := .un) (t8 := .un)
                obtain ⟨v2, e6⟩ := row_tuples (p := p) (R := run p Tb (n - 1)) ntup hw hl2 (t0 := .nd (.obj "Day" ["_closing", "_own"]) true [.i k, .nd .lst true (xs.map .s)]) (t1 := .i k) (t2 := .tup (xs.map .s)) (t3 := if o3 = true then .un else .nd .lst o3 ns) (t4 := .nd .lst o4 rs) (t5 := .n) (t6 := .nd .lst true (T.s "open" :: (xs.map T.s ++ ns.map fun r => T.s (strOf (nth 0 r))))) (t7 := .un) (t8 := .un)
                obtain ⟨v3, e7⟩ := rule_tuples (p := p) (R := run p Tb (n - 1)) rr hwr hl3 (t0 := .nd (.obj "Day" ["_closing", "_own", "_news"]) true [.i k, .nd .lst true (xs.map .s), .nd .lst true ns]) (t1 := .i k) (t2 := .tup (xs.map .s)) (t3 := .nd .lst o3 ns) (t4 := if o4 = true then .un else .nd .lst o4 rs) (t5 := .n) (t6 := .nd .lst true (T.s "open" :: (xs.map T.s ++ ns.map fun r => T.s (strOf (nth 0 r))))) (t7 := .un) (t8 := .un)
                cases o3 <;> cases o4 <;> simp at e5 e6 e7 <;> simp_arith [e1, c1, e2, c2, e3, e4, e5, e6, e7, hw, hwx, hwr, optI, a1, a2, a3, a4, a5, q1, q2, q3, q4, fzn, fx]
              · obtain ⟨v, e5⟩ := row_names (p := p) (R := run p Tb (n - 1)) nn hw hl2 (t0 := .nd (.obj "Day" []) true []) (t1 := .i k) (t2 := .nd .lst o2 (xs.map .s)) (t3 := if o3 = true then .un else .nd .lst o3 ns) (t4 := .nd .lst o4 rs) (t5 := .n) (t6 := .un) (t7 := .un) (t8 := .un)
                obtain ⟨v2, e6⟩ := row_tuples (p := p) (R := run p Tb (n - 1)) ntup hw hl2 (t0 := .nd (.obj "Day" ["_closing", "_own"]) true [.i k, .nd .lst true (xs.map .s)]) (t1 := .i k) (t2 := .nd .lst o2 (xs.map .s)) (t3 := if o3 = true then .un else .nd .lst o3 ns) (t4 := .nd .lst o4 rs) (t5 := .n) (t6 := .nd .lst true (T.s "open" :: (xs.map T.s ++ ns.map fun r => T.s (strOf (nth 0 r))))) (t7 := .un) (t8 := .un)
                obtain ⟨v3, e7⟩ := rule_tuples (p := p) (R := run p Tb (n - 1)) rr hwr hl3 (t0 := .nd (.obj "Day" ["_closing", "_own", "_news"]) true [.i k, .nd .lst true (xs.map .s), .nd .lst true ns]) (t1 := .i k) (t2 := .nd .lst o2 (xs.map .s)) (t3 := .nd .lst o3 ns) (t4 := if o4 = true then .un else .nd .lst o4 rs) (t5 := .n) (t6 := .nd .lst true (T.s "open" :: (xs.map T.s ++ ns.map fun r => T.s (strOf (nth 0 r))))) (t7 := .un) (t8 := .un)
                cases o2 <;> cases o3 <;> cases o4 <;> simp at e5 e6 e7 <;> simp_arith [e1, c1, e2, c2, e3, e4, e5, e6, e7, hw, hwx, hwr, optI, a1, a2, a3, a4, a5, q1, q2, q3, q4, fzn, fx]
end
end PL
set_option Elab.async false
set_option linter.all false
set_option maxRecDepth 100000
set_option maxHeartbeats 4000000
namespace PL
open PySem PySem.Spec PyProof.Rows L2
local macro_rules
  | `(tactic| simp_arith [$as,*]) => `(tactic| simp -implicitDefEqProofs (disch := omega) [$as,*])
/-! ### a drawn day fits -/
theorem IsName.b {x : Str} (h : IsName x) : isNameB x = true := by
  obtain ⟨c0, r, e, h1, h2, h3⟩ := h
  unfold isNameB
  rw [e]
  show (isLet c0 && (r.all fun c => isLet c || isFig c) && decide (r.length ≤ 11)) = true
  rw [h1, List.all_eq_true.mpr h2, decide_eq_true h3]
  rfl
theorem open_name : isNameB "open" = true := by decide +kernel
theorem nm_name {x : Str} (h : isNameB x = true) : isNm (.s x) = true := h
theorem strOf_row {r : Row} : strOf (nth 0 (rowT r)) = r.name := rfl
theorem late_num {l : Option Int} (h : ∀ k, l = some k → 0 ≤ k) : (isNo (lateT l) || isNum (lateT l)) = true := by
  cases l with
  | none => rfl
  | some k =>
    show (false || decide (0 ≤ k)) = true
    rw [decide_eq_true (h k rfl)]
    rfl
theorem news_good : ∀ {rs : List Row} {b ns bs : List Str} {k : Nat}, NewsOk b rs → (∀ y, y ∈ b → y ∈ bs) → (∀ y ∈ b, isNameB y = true) → (∀ r ∈ rs, isNameB r.name = true ∧ r.name ∉ ns) → (rs.map (·.name)).Nodup → newsBad ns bs k (rs.map rowT) = none
  | [], _, _, _, _, _, _, _, _, _ => rfl
  | r :: rs, b, ns, bs, k, hn, hb, hbn, hm, hd => by
    obtain ⟨h1, h2⟩ := hn
    obtain ⟨g1, g2, g3, g4⟩ := h1
    obtain ⟨m1, m2⟩ := hm r List.mem_cons_self
    have row : rowB ns bs (rowT r) = true := by
      show row5 ns bs (.s r.name) (.s r.beg) (.i r.least) (.i r.most) (lateT r.late) = true
      unfold row5
      rw [late_num g4]
      simp [isI, intOf, strOf, nm_name m1, nm_name (hbn _ g1), m2, hb _ g1, g2, g3]
    rw [List.map_cons, newsBad, if_pos row, strOf_row]
    have hd2 : r.name ∉ rs.map (·.name) ∧ (rs.map (·.name)).Nodup := List.nodup_cons.mp hd
    refine news_good h2 (fun y hy => ?_) (fun y hy => ?_) (fun q hq => ⟨(hm q (List.mem_cons_of_mem _ hq)).1, fun h => ?_⟩) hd2.2
    · by_cases e : r.late = some 0
      · rw [if_pos e] at hy
        have ez : isZ (nth 4 (rowT r)) = true := by
          show isZ (lateT r.late) = true
          rw [e]
          rfl
        rw [if_pos ez, addS_mem]
        rcases List.mem_append.mp hy with hy | hy
        · exact .inl (hb y hy)
        · exact .inr (List.mem_singleton.mp hy)
      · rw [if_neg e] at hy
        split
        · exact addS_mem.mpr (.inl (hb y hy))
        · exact hb y hy
    · split at hy
      · rcases List.mem_append.mp hy with hy | hy
        · exact hbn y hy
        · rw [List.mem_singleton.mp hy]
          exact m1
      · exact hbn y hy
    · rcases addS_mem.mp h with h | h
      · exact (hm q (List.mem_cons_of_mem _ hq)).2 h
      · exact hd2.1 (h ▸ List.mem_map_of_mem hq)
theorem rules_good : ∀ {rs : List Rule} {es : List Str} {k : Nat}, (∀ y ∈ es, isNameB y = true) → (∀ r ∈ rs, RuleOk es r) → rulesBad es k (rs.map ruleT) = none
  | [], _, _, _, _ => rfl
  | r :: rs, es, k, he, hr => by
    obtain ⟨h1, h2, h3, _⟩ := hr r List.mem_cons_self
    have row : ruleB es (ruleT r) = true := by
      show rule3 es (.s r.a) (.s r.b) (.i r.m) = true
      unfold rule3
      simp [isI, strOf, nm_name (he _ h1), nm_name (he _ h2), h1, h2, h3]
    rw [List.map_cons, rulesBad, if_pos row]
    exact rules_good he fun q hq => hr q (List.mem_cons_of_mem _ hq)
def rawTo (o : Bool) (w : Raw) : T := .nd .lst o [.i w.closing, .nd .lst false (w.own.map .s), .nd .lst false (w.rows.map rowT), .nd .lst o (w.rules.map ruleT)]
theorem rawTo_t {w : Raw} : rawT w = rawTo true w := rfl
/-- the Day of a raw day -/
def dayW (o : Bool) (w : Raw) : T := dayT o w.closing w.own (w.rows.map rowT) (w.rules.map ruleT)
theorem evs_eq {w : Raw} : ("open" : Str) :: (w.own ++ (w.rows.map rowT).map fun r => strOf (nth 0 r)) = w.evs := by
  rw [List.map_map]
  rfl
theorem its_strs {p : Px} {xs : List Str} (h : ∀ x ∈ xs, x.length ≤ 1000) (hl : xs.length ≤ 1000) : Its p (xs.map .s) := ⟨by simpa using hl, fun u hu => by
  obtain ⟨y, hy, rfl⟩ := List.mem_map.mp hu
  exact ⟨tgd_s, rfl, fun x e => by cases e; exact h y hy⟩⟩
theorem tgd_late {p : Px} {l : Option Int} : Tgd p (lateT l) := by cases l <;> first | exact tgd_n | exact tgd_i
theorem rws_rows {p : Px} {rs : List Row} (h : ∀ r ∈ rs, r.name.length ≤ 1000 ∧ r.beg.length ≤ 1000) (hl : rs.length ≤ 1000) : Rws p (rs.map rowT) := ⟨by simpa using hl, fun u hu => by
  obtain ⟨r, hr, rfl⟩ := List.mem_map.mp hu
  refine ⟨tgd_tup, row_ow, ⟨by simp [rowT, itsOf], fun v hv => ?_⟩, fun o ts e => by cases e⟩
  simp only [rowT, itsOf, List.mem_cons, List.not_mem_nil, or_false] at hv
  rcases hv with rfl | rfl | rfl | rfl | rfl
  · exact ⟨tgd_s, rfl, fun x e => by cases e; exact (h r hr).1⟩
  · exact ⟨tgd_s, rfl, fun x e => by cases e; exact (h r hr).2⟩
  · exact ⟨tgd_i, rfl, fun x e => by cases e⟩
  · exact ⟨tgd_i, rfl, fun x e => by cases e⟩
  · exact ⟨tgd_late, late_ow, fun x e => by cases hl : r.late <;> rw [hl] at e <;> cases e⟩⟩
theorem rws_rules {p : Px} {rs : List Rule} (h : ∀ r ∈ rs, r.a.length ≤ 1000 ∧ r.b.length ≤ 1000) (hl : rs.length ≤ 1000) : Rws p (rs.map ruleT) := ⟨by simpa using hl, fun u hu => by
  obtain ⟨r, hr, rfl⟩ := List.mem_map.mp hu
  refine ⟨tgd_tup, rfl, ⟨by simp [ruleT, itsOf], fun v hv => ?_⟩, fun o ts e => by cases e⟩
  simp only [ruleT, itsOf, List.mem_cons, List.not_mem_nil, or_false] at hv
  rcases hv with rfl | rfl | rfl
  · exact ⟨tgd_s, rfl, fun x e => by cases e; exact (h r hr).1⟩
  · exact ⟨tgd_s, rfl, fun x e => by cases e; exact (h r hr).2⟩
  · exact ⟨tgd_i, rfl, fun x e => by cases e⟩⟩
theorem RawOk.evs {w : Raw} (h : RawOk w) : ∀ y ∈ w.evs, isNameB y = true := fun y hy => by
  rcases List.mem_cons.mp hy with rfl | hy
  · exact open_name
  · exact (h.names.1 y hy).b
theorem nameB_len {x : Str} (h : isNameB x = true) : x.length ≤ 1000 := by
  have := (isName_of h).len
  omega
theorem RawOk.beg {w : Raw} (h : RawOk w) : ∀ r ∈ w.rows, isNameB r.name = true ∧ isNameB r.beg = true := fun r hr => by
  refine ⟨h.evs _ (List.mem_cons_of_mem _ (List.mem_append_right _ (List.mem_map_of_mem hr))), ?_⟩
  rcases news_beg h.news r hr with h1 | ⟨q, h1, h2⟩
  · refine h.evs _ ?_
    rcases List.mem_cons.mp h1 with h1 | h1
    · rw [h1]; exact List.mem_cons_self
    · exact List.mem_cons_of_mem _ (List.mem_append_left _ h1)
  · rw [← h2]
    exact h.evs _ (List.mem_cons_of_mem _ (List.mem_append_right _ (List.mem_map_of_mem h1)))
theorem map_str {xs : List Str} : (xs.map T.s).map strOf = xs := by
  rw [List.map_map]
  exact List.map_id xs
/-- the Day of a right raw day -/
theorem RawOk.res {w : Raw} (h : RawOk w) {o1 o2 o3 : Bool} : dayRes (.i w.closing) (.nd .lst o1 (w.own.map .s)) (.nd .lst o2 (w.rows.map rowT)) (.nd .lst o3 (w.rules.map ruleT)) =
    .ok .n [dayW true w, .i w.closing, .nd .lst o1 (w.own.map .s), .nd .lst o2 (w.rows.map rowT), .nd .lst o3 (w.rules.map ruleT)] := by
  have nn := h.names
  have hon : ∀ x ∈ w.own, isNameB x = true ∧ x ≠ "open" := fun x hx => ⟨(nn.1 x (List.mem_append_left _ hx)).b, fun e => nn.2.1 (e ▸ List.mem_append_left _ hx)⟩
  have hod : w.own.Nodup := (List.nodup_append.mp nn.2.2).1
  have c1 : isNum (.i w.closing) = true := decide_eq_true h.cl0
  have c2 : ownB (.nd .lst o1 (w.own.map .s)) = true := by
    unfold ownB
    simp only [Bool.and_eq_true, decide_eq_true_eq]
    refine ⟨⟨rfl, ?_⟩, ?_⟩
    · show (w.own.map T.s).all nmOk = true
      rw [List.all_map, List.all_eq_true]
      intro x hx
      show (isNameB x && decide (x ≠ "open")) = true
      rw [(hon x hx).1, decide_eq_true (hon x hx).2]
      rfl
    · show ((w.own.map T.s).map strOf).Nodup
      rw [map_str]
      exact hod
  have c4 : newsBad (foldS w.own ["open"]) (foldS w.own ["open"]) 0 (w.rows.map rowT) = none := by
    refine news_good h.news (fun y hy => foldS_mem.mpr ?_) (fun y hy => ?_) (fun r hr => ⟨(h.beg r hr).1, fun hm => ?_⟩) ?_
    · rcases List.mem_cons.mp hy with rfl | hy
      · exact .inl List.mem_cons_self
      · exact .inr hy
    · rcases List.mem_cons.mp hy with rfl | hy
      · exact open_name
      · exact (hon y hy).1
    · rcases foldS_mem.mp hm with hm | hm
      · exact nn.2.1 (List.mem_singleton.mp hm ▸ List.mem_append_right _ (List.mem_map_of_mem hr))
      · exact (List.nodup_append.mp nn.2.2).2.2 _ hm _ (List.mem_map_of_mem hr) rfl
    · exact (List.nodup_append.mp nn.2.2).2.1
  have c6 : rulesBad w.evs 0 (w.rules.map ruleT) = none := rules_good h.evs h.rules
  have i1 : itsOf (.nd .lst o1 (w.own.map .s)) = w.own.map .s := rfl
  have i2 : itsOf (.nd .lst o2 (w.rows.map rowT)) = w.rows.map rowT := rfl
  have i3 : itsOf (.nd .lst o3 (w.rules.map ruleT)) = w.rules.map ruleT := rfl
  unfold dayRes
  rw [c1, c2, i1, i2, i3, map_str, c4, evs_eq, c6]
  rfl
end PL
set_option Elab.async false
set_option linter.all false
set_option maxRecDepth 100000
set_option maxHeartbeats 4000000
namespace PL
open PySem PySem.Spec PyProof.Rows L2
local macro_rules
  | `(tactic| simp_arith [$as,*]) => `(tactic| simp -implicitDefEqProofs (disch := omega) [$as,*])
/-! ### what a day tells -/
def fClosing : Fd := ⟨["self"], 1, [.ret (.attr (.var 0) "_closing")]⟩
def fTell (f : Str) : Fd := ⟨["self"], 1, [.ret (.blt .list [.attr (.var 0) f])]⟩
def dayE (own : List Str) (news : List T) : List T := (("open" : Str) :: (own ++ news.map fun r => strOf (nth 0 r))).map .s
@[simp] theorem un_dayT {o : Bool} {cl : Int} {own : List Str} {news rules : List T} : isUn (dayT o cl own news rules) = false := rfl
@[simp] theorem ow_dayT {o : Bool} {cl : Int} {own : List Str} {news rules : List T} : ow (dayT o cl own news rules) = o := rfl
@[simp] theorem dct_dayT {o : Bool} {cl : Int} {own : List Str} {news rules : List T} : isDct (dayT o cl own news rules) = false := rfl
@[simp] theorem tag_dayT {o : Bool} {cl : Int} {own : List Str} {news rules : List T} : tagOf (dayT o cl own news rules) = some (.c "Day") := rfl
section
variable {p : Px} {o : Bool} {cl : Int} {own : List Str} {news rules : List T}
theorem day_f1 (dp : DayPx p) : fldT p "_closing" (dayT o cl own news rules) = some (.i cl) := by
  unfold dayT
  rw [z_fld, gd_t dp.a1]
  rfl
theorem day_f2 (dp : DayPx p) : fldT p "_own" (dayT o cl own news rules) = some (.nd .lst o (own.map .s)) := by
  unfold dayT
  rw [z_fld, gd_t dp.a2]
  rfl
theorem day_f3 (dp : DayPx p) : fldT p "_news" (dayT o cl own news rules) = some (.nd .lst o news) := by
  unfold dayT
  rw [z_fld, gd_t dp.a3]
  rfl
theorem day_f4 (dp : DayPx p) : fldT p "_rules" (dayT o cl own news rules) = some (.nd .lst o rules) := by
  unfold dayT
  rw [z_fld, gd_t dp.a4]
  rfl
theorem day_f5 (dp : DayPx p) : fldT p "_events" (dayT o cl own news rules) = some (.nd .lst false (dayE own news)) := by
  unfold dayT
  rw [z_fld, gd_t dp.a5]
  rfl
theorem day_obj {m : Str} (h : DF.contains m = false) : isObj "Day" m (some (dayT o cl own news rules)) = true := by
  show (decide (("Day" : Str) = "Day") && !DF.contains m) = true
  rw [h]
  rfl
end
section
variable {p : Px} {Tb : List Fd} {n i : Nat} {o : Bool} {cl : Int} {own : List Str} {news rules : List T}
theorem closing_run (dp : DayPx p) (h : Tb[i]? = some fClosing) (hn : 1 ≤ n := by omega) : run p Tb n i [dayT o cl own news rules] = .ok (.i cl) [dayT o cl own news rules] := by
  rw [run_at [] h hn rfl rfl]
  simp_arith [day_f1 dp]
theorem own_tell (dp : DayPx p) (h : Tb[i]? = some (fTell "_own")) (hn : 1 ≤ n := by omega) : run p Tb n i [dayT o cl own news rules] = .ok (.nd .lst true (own.map .s)) [dayT o cl own news rules] := by
  have hw : ows (own.map T.s) = false := ows_all fun u hu => by
    obtain ⟨y, _, rfl⟩ := List.mem_map.mp hu
    rfl
  rw [run_at [] h hn rfl rfl]
  simp_arith [day_f2 dp, hw]
theorem news_tell (dp : DayPx p) (h : Tb[i]? = some (fTell "_news")) (hw : ows news = false) (hn : 1 ≤ n := by omega) : run p Tb n i [dayT o cl own news rules] = .ok (.nd .lst true news) [dayT o cl own news rules] := by
  rw [run_at [] h hn rfl rfl]
  simp_arith [day_f3 dp, hw]
theorem rules_tell (dp : DayPx p) (h : Tb[i]? = some (fTell "_rules")) (hw : ows rules = false) (hn : 1 ≤ n := by omega) : run p Tb n i [dayT o cl own news rules] = .ok (.nd .lst true rules) [dayT o cl own news rules] := by
  rw [run_at [] h hn rfl rfl]
  simp_arith [day_f4 dp, hw]
theorem events_tell (dp : DayPx p) (h : Tb[i]? = some (fTell "_events")) (hn : 1 ≤ n := by omega) : run p Tb n i [dayT o cl own news rules] = .ok (.nd .lst true (dayE own news)) [dayT o cl own news rules] := by
  have hw : ows (dayE own news) = false := ows_all fun u hu => by
    obtain ⟨y, _, rfl⟩ := List.mem_map.mp hu
    rfl
  rw [run_at [] h hn rfl rfl]
  simp_arith [day_f5 dp, hw]
end
def fNeedDay (x : Nat) : Fd := ⟨["day"], 1, [
  .ite (.not (.blt .isinst [.var 0, .cls "Day"])) [
    .raise "BadDay" x [.var 0]] []]⟩
def isDay : T → Bool
  | .nd (.obj C _) _ _ => decide (C = "Day")
  | _ => false
@[simp] theorem fzs_fzs {ts : List T} : fzs (fzs ts) = fzs ts := fzs_id _ (ow_fzs ts)
section
variable {p : Px} {Tb : List Fd} {n i x : Nat} {t : T}
theorem need_day_run (dp : DayPx p) (h : Tb[i]? = some (fNeedDay x)) (hx : Tb[x]? = some (fErr "day")) (ht : Tgd p t) (hn : 2 ≤ n := by omega) :
    run p Tb n i [t] = if isDay t = true then .ok .n [t] else .ex "BadDay" (xdOf ["day"] [fz t]) := by
  have y := xi_at (n := n - 1) hx (by omega) xi_err
  have r := dp.r5
  have c := dp.cls
  refine Tgd.cases (P := fun t => run p Tb n i [t] = if isDay t = true then .ok .n [t] else .ex "BadDay" (xdOf ["day"] [fz t])) ht ?_ ?_ ?_ ?_ ?_ ?_ ?_ ?_ ?_ ?_ ?_ ?_
  all_goals intros
  all_goals rw [run_at [] h (by omega) rfl rfl]
  case refine_11 =>
    rename_i C fs ts hC
    by_cases e : C = "Day"
    · subst e
      simp_arith [isDay, c]
    · have e2 : (C == ("Day" : Str)) = false := by simpa using e
      simp_arith [isDay, e, e2, c, hC, y, r, xdOf]
  case refine_12 =>
    rename_i C fs ts hC
    by_cases e : C = "Day"
    · subst e
      simp_arith [isDay, c]
    · have e2 : (C == ("Day" : Str)) = false := by simpa using e
      simp_arith [isDay, e, e2, c, hC, y, r, xdOf]
  all_goals simp_arith [isDay, c, y, r, xdOf, *]
end
/-! ### given lines -/
def rowLines (r : Row) : List Rule := [⟨r.beg, r.name, r.most⟩, ⟨r.name, r.beg, -r.least⟩]
def linesOf (w : Raw) : List Rule := w.rules ++ w.rows.flatMap rowLines ++ (w.own ++ w.rows.map (·.name)).map (fun e => ⟨e, "open", 0⟩) ++ w.own.map fun e => ⟨"open", e, w.closing⟩
def givenA : List Cm := [
    .ex (.mth .append (.var 1) [.tup [.var 4, .var 3, .var 6]]),
    .ex (.mth .append (.var 1) [.tup [.var 3, .var 4, .neg (.var 5)]])]
def givenB : List Cm := [.ex (.mth .append (.var 1) [.tup [.var 2, .str "open", .int 0]])]
def givenC (icl : Nat) : List Cm := [.ex (.mth .append (.var 1) [.tup [.str "open", .var 2, .meth "Day" "closing" icl (.var 0) []]])]
def fGiven (ind icl iow inw iru iev : Nat) : Fd := ⟨["day", "told", "event", "name", "begin", "least", "most", "_"], 1, [
  .ex (.call ind [.var 0]),
  .asg (.one 1) (.meth "Day" "rules" iru (.var 0) []),
  .fr (.tup [.one 3, .one 4, .one 5, .one 6, .one 7]) .seq [.meth "Day" "news" inw (.var 0) []] givenA,
  .fr (.one 2) .seq [.slc (.meth "Day" "events" iev (.var 0) []) (.int 1) .non] givenB,
  .fr (.one 2) .seq [.meth "Day" "own" iow (.var 0) []] (givenC icl),
  .ret (.var 1)]⟩
section
variable {p : Px} {Tb : List Fd} {n i : Nat}
theorem givenA_run {R : RF} {XI : Nat → Option (List Str)} {rs : List Row} {us : List Rule} (hl : us.length + 2 * rs.length ≤ 100000) {t0 t2 t3 t4 t5 t6 t7 : T} {rest : Ev} :
    ∃ v3 v4 v5 v6 v7, fvs p R XI (.tup [.one 3, .one 4, .one 5, .one 6, .one 7]) givenA (rs.map rowT) (t0 :: .nd .lst true (us.map ruleT) :: t2 :: t3 :: t4 :: t5 :: t6 :: t7 :: rest) = .nx (t0 :: .nd .lst true ((us ++ rs.flatMap rowLines).map ruleT) :: t2 :: v3 :: v4 :: v5 :: v6 :: v7 :: rest) := by
  let I : List Row → Ev → Prop := fun its ρ => ∃ vs v3 v4 v5 v6 v7, vs ++ its.flatMap rowLines = us ++ rs.flatMap rowLines ∧ vs.length + 2 * its.length ≤ 100000 ∧ ρ = (t0 :: .nd .lst true (vs.map ruleT) :: t2 :: v3 :: v4 :: v5 :: v6 :: v7 :: rest)
  have st : ∀ (r : Row) (q : List Row) (ρ : Ev), I (r :: q) ρ → Turn p R XI (.tup [.one 3, .one 4, .one 5, .one 6, .one 7]) givenA (rowT r) ρ (I q) := by
    rintro r q ρ ⟨vs, v3, v4, v5, v6, v7, e1, e2, rfl⟩
    simp only [List.length_cons] at e2
    refine turn_of (ρ1 := (t0 :: .nd .lst true (vs.map ruleT) :: t2 :: .s r.name :: .s r.beg :: .i r.least :: .i r.most :: lateT r.late :: rest)) (by simp [rowT]) ⟨vs ++ rowLines r, .s r.name, .s r.beg, .i r.least, .i r.most, lateT r.late, by rw [← e1]; simp, by simp [rowLines]; omega, rfl⟩ ?_
    simp_arith [givenA, rowLines, ruleT]
  obtain ⟨ρ', e, vs, v3, v4, v5, v6, v7, e1, _, rfl⟩ := fvs_map st rs (t0 :: .nd .lst true (us.map ruleT) :: t2 :: t3 :: t4 :: t5 :: t6 :: t7 :: rest) ⟨us, _, _, _, _, _, rfl, hl, rfl⟩
  have e2 : vs = us ++ rs.flatMap rowLines := by simpa using e1
  subst e2
  exact ⟨_, _, _, _, _, e⟩
theorem givenB_run {R : RF} {XI : Nat → Option (List Str)} {xs : List Str} {us : List Rule} (hl : us.length + xs.length ≤ 100000) {t0 t2 t3 t4 t5 t6 t7 : T} {rest : Ev} :
    ∃ v2, fvs p R XI (.one 2) givenB (xs.map .s) (t0 :: .nd .lst true (us.map ruleT) :: t2 :: t3 :: t4 :: t5 :: t6 :: t7 :: rest) = .nx (t0 :: .nd .lst true ((us ++ xs.map fun e => (⟨e, "open", 0⟩ : Rule)).map ruleT) :: v2 :: t3 :: t4 :: t5 :: t6 :: t7 :: rest) := by
  let I : List Str → Ev → Prop := fun its ρ => ∃ vs v2, vs ++ its.map (fun e => (⟨e, "open", 0⟩ : Rule)) = us ++ xs.map (fun e => (⟨e, "open", 0⟩ : Rule)) ∧ vs.length + its.length ≤ 100000 ∧ ρ = (t0 :: .nd .lst true (vs.map ruleT) :: v2 :: t3 :: t4 :: t5 :: t6 :: t7 :: rest)
  have st : ∀ (r : Str) (q : List Str) (ρ : Ev), I (r :: q) ρ → Turn p R XI (.one 2) givenB (.s r) ρ (I q) := by
    rintro r q ρ ⟨vs, v2, e1, e2, rfl⟩
    simp only [List.length_cons] at e2
    refine turn_of rfl ⟨vs ++ [⟨r, "open", 0⟩], .s r, by rw [← e1]; simp, by simp; omega, rfl⟩ ?_
    simp_arith [givenB, ruleT]
  obtain ⟨ρ', e, vs, v2, e1, _, rfl⟩ := fvs_map st xs (t0 :: .nd .lst true (us.map ruleT) :: t2 :: t3 :: t4 :: t5 :: t6 :: t7 :: rest) ⟨us, _, rfl, hl, rfl⟩
  have e2 : vs = us ++ xs.map (fun e => (⟨e, "open", 0⟩ : Rule)) := by simpa using e1
  subst e2
  exact ⟨_, e⟩
theorem givenC_run {R : RF} {XI : Nat → Option (List Str)} {b : List Cm} {xs : List Str} {us : List Rule} {cl : Int} {t0 : T} (hl : us.length + xs.length ≤ 100000) {t2 t3 t4 t5 t6 t7 : T} {rest : Ev}
    (hb : ∀ (vs : List Rule) (x : Str) (t3 t4 t5 t6 t7 : T), vs.length < 100000 → svs p R XI b (t0 :: .nd .lst true (vs.map ruleT) :: .s x :: t3 :: t4 :: t5 :: t6 :: t7 :: rest) = .nx (t0 :: .nd .lst true ((vs ++ [(⟨"open", x, cl⟩ : Rule)]).map ruleT) :: .s x :: t3 :: t4 :: t5 :: t6 :: t7 :: rest)) :
    ∃ v2, fvs p R XI (.one 2) b (xs.map .s) (t0 :: .nd .lst true (us.map ruleT) :: t2 :: t3 :: t4 :: t5 :: t6 :: t7 :: rest) = .nx (t0 :: .nd .lst true ((us ++ xs.map fun e => (⟨"open", e, cl⟩ : Rule)).map ruleT) :: v2 :: t3 :: t4 :: t5 :: t6 :: t7 :: rest) := by
  let I : List Str → Ev → Prop := fun its ρ => ∃ vs v2, vs ++ its.map (fun e => (⟨"open", e, cl⟩ : Rule)) = us ++ xs.map (fun e => (⟨"open", e, cl⟩ : Rule)) ∧ vs.length + its.length ≤ 100000 ∧ ρ = (t0 :: .nd .lst true (vs.map ruleT) :: v2 :: t3 :: t4 :: t5 :: t6 :: t7 :: rest)
  have st : ∀ (r : Str) (q : List Str) (ρ : Ev), I (r :: q) ρ → Turn p R XI (.one 2) b (.s r) ρ (I q) := by
    rintro r q ρ ⟨vs, v2, e1, e2, rfl⟩
    simp only [List.length_cons] at e2
    exact turn_of (ρ1 := (t0 :: .nd .lst true (vs.map ruleT) :: .s r :: t3 :: t4 :: t5 :: t6 :: t7 :: rest)) rfl ⟨vs ++ [(⟨"open", r, cl⟩ : Rule)], .s r, by rw [← e1]; simp, by simp; omega, rfl⟩ (hb vs r t3 t4 t5 t6 t7 (by omega))
  obtain ⟨ρ', e, vs, v2, e1, _, rfl⟩ := fvs_map st xs (t0 :: .nd .lst true (us.map ruleT) :: t2 :: t3 :: t4 :: t5 :: t6 :: t7 :: rest) ⟨us, _, rfl, hl, rfl⟩
  have e2 : vs = us ++ xs.map (fun e => (⟨"open", e, cl⟩ : Rule)) := by simpa using e1
  subst e2
  exact ⟨_, e⟩
theorem evs_strs {w : Raw} : dayE w.own (w.rows.map rowT) = w.evs.map .s := by
  unfold dayE
  rw [evs_eq]
theorem given_run {w : Raw} {o : Bool} {ind icl iow inw iru iev x : Nat} (dp : DayPx p) (h : Tb[i]? = some (fGiven ind icl iow inw iru iev)) (hnd : Tb[ind]? = some (fNeedDay x)) (hx : Tb[x]? = some (fErr "day"))
    (hcl : Tb[icl]? = some fClosing) (how : Tb[iow]? = some (fTell "_own")) (hnw : Tb[inw]? = some (fTell "_news")) (hru : Tb[iru]? = some (fTell "_rules")) (hev : Tb[iev]? = some (fTell "_events"))
    (l1 : w.own.length ≤ 1000) (l2 : w.rows.length ≤ 1000) (l3 : w.rules.length ≤ 1000) (hn : 3 ≤ n := by omega) :
    run p Tb n i [dayW o w] = .ok (.nd .lst true ((linesOf w).map ruleT)) [dayW o w] := by
  have m1 : DF.contains "rules" = false := by decide +kernel
  have m2 : DF.contains "news" = false := by decide +kernel
  have m3 : DF.contains "events" = false := by decide +kernel
  have m4 : DF.contains "own" = false := by decide +kernel
  have m5 : DF.contains "closing" = false := by decide +kernel
  have e0 := need_day_run (n := n - 1) dp hnd hx (t := dayW o w) (tgd_obj dp.cls)
  rw [if_pos (by rfl)] at e0
  unfold dayW at *
  have e1 := rules_tell (p := p) (Tb := Tb) (n := n - 1) (o := o) (cl := w.closing) (own := w.own) (news := w.rows.map rowT) (rules := w.rules.map ruleT) dp hru ows_rules
  have e2 := news_tell (p := p) (Tb := Tb) (n := n - 1) (o := o) (cl := w.closing) (own := w.own) (news := w.rows.map rowT) (rules := w.rules.map ruleT) dp hnw ows_rows
  have e3 := events_tell (p := p) (Tb := Tb) (n := n - 1) (o := o) (cl := w.closing) (own := w.own) (news := w.rows.map rowT) (rules := w.rules.map ruleT) dp hev
  have e4 := own_tell (p := p) (Tb := Tb) (n := n - 1) (o := o) (cl := w.closing) (own := w.own) (news := w.rows.map rowT) (rules := w.rules.map ruleT) dp how
  have e5 := closing_run (p := p) (Tb := Tb) (n := n - 1) (o := o) (cl := w.closing) (own := w.own) (news := w.rows.map rowT) (rules := w.rules.map ruleT) dp hcl
  rw [evs_strs] at e3
  generalize hD : dayT o w.closing w.own (w.rows.map rowT) (w.rules.map ruleT) = D at *
  have uD : isUn D = false := by rw [← hD]; rfl
  have oD : ow D = o := by rw [← hD]; rfl
  have b1 : isObj "Day" "rules" (some D) = true := by rw [← hD]; exact day_obj m1
  have b2 : isObj "Day" "news" (some D) = true := by rw [← hD]; exact day_obj m2
  have b3 : isObj "Day" "events" (some D) = true := by rw [← hD]; exact day_obj m3
  have b4 : isObj "Day" "own" (some D) = true := by rw [← hD]; exact day_obj m4
  have b5 : isObj "Day" "closing" (some D) = true := by rw [← hD]; exact day_obj m5
  have hlr : ∀ rs : List Row, (rs.flatMap rowLines).length = 2 * rs.length := fun rs => by
    induction rs with
    | nil => rfl
    | cons r rs ih => rw [List.flatMap_cons, List.length_append, ih]; simp [rowLines]; omega
  obtain ⟨v3, v4, v5, v6, v7, f1⟩ := givenA_run (p := p) (R := run p Tb (n - 1)) (XI := XIat Tb (n - 1)) (rs := w.rows) (us := w.rules) (by omega) (t0 := D) (t2 := .un) (t3 := .un) (t4 := .un) (t5 := .un) (t6 := .un) (t7 := .un) (rest := [])
  obtain ⟨v2, f2⟩ := givenB_run (p := p) (R := run p Tb (n - 1)) (XI := XIat Tb (n - 1)) (xs := w.own ++ w.rows.map (·.name)) (us := w.rules ++ w.rows.flatMap rowLines) (by simp [hlr]; omega) (t0 := D) (t2 := .un) (t3 := v3) (t4 := v4) (t5 := v5) (t6 := v6) (t7 := v7) (rest := [])
  obtain ⟨v2', f3⟩ := givenC_run (p := p) (R := run p Tb (n - 1)) (XI := XIat Tb (n - 1)) (b := givenC icl) (cl := w.closing) (xs := w.own) (us := w.rules ++ w.rows.flatMap rowLines ++ (w.own ++ w.rows.map (·.name)).map (fun e => (⟨e, "open", 0⟩ : Rule))) (by simp [hlr]; omega) (t0 := D) (t2 := v2) (t3 := v3) (t4 := v4) (t5 := v5) (t6 := v6) (t7 := v7) (rest := [])
    (fun vs x t3 t4 t5 t6 t7 hv => by
      cases o <;> simp_arith [givenC, uD, oD, b5, e5, ruleT])
  have ecut : cutL (w.evs.map T.s) (some 1) none = (w.own ++ w.rows.map (·.name)).map T.s := by
    unfold Raw.evs
    rw [List.map_cons, cutL_1]
  have hws : ∀ xs : List Str, ows (xs.map T.s) = false := fun xs => ows_all fun u hu => by
    obtain ⟨y, _, rfl⟩ := List.mem_map.mp hu
    rfl
  have ha1 : asgSs givenA = [] := rfl
  have ha2 : asgSs givenB = [] := rfl
  have ha3 : asgSs (givenC icl) = [] := rfl
  rw [run_at [1, 3, 4, 5, 6, 7, 2, 2] h (by omega) rfl rfl]
  unfold linesOf
  generalize hus : w.rules ++ w.rows.flatMap rowLines = us at *
  generalize hvs : (w.own ++ w.rows.map (·.name)).map (fun e => (⟨e, "open", 0⟩ : Rule)) = vs at *
  generalize hxs : (w.own ++ w.rows.map (·.name)) = xs at *
  simp only [List.map_append] at f1 f2 f3
  cases o <;> simp_arith [uD, oD, e0, e1, e2, e3, e4, b1, b2, b3, b4, ecut, hws, ha1, ha2, ha3, f1, f2, f3]
end
end PL
set_option Elab.async false
set_option linter.all false
set_option maxRecDepth 100000
set_option maxHeartbeats 4000000
namespace PL
open PySem PySem.Spec PyProof.Rows L2
local macro_rules
  | `(tactic| simp_arith [$as,*]) => `(tactic| simp -implicitDefEqProofs (disch := omega) [$as,*])
/-! ### the laws' own lines, days of raw days -/
def fLEvents : Fd := ⟨["raw", "row"], 1, [
  .ret (.bin .Add (.bin .Add (.lst [.str "open"]) (.blt .list [.idx (.var 0) (.int 1)])) (.lc (.idx (.var 1) (.int 0)) (.one 1) .seq [.idx (.var 0) (.int 2)] [] [1]))]⟩
def lgivenC : List Cm := [.ex (.mth .append (.var 1) [.tup [.str "open", .var 2, .idx (.var 0) (.int 0)]])]
def fLGiven (ie : Nat) : Fd := ⟨["raw", "lines", "event", "name", "begin", "least", "most", "late", "rule"], 1, [
  .asg (.one 1) (.lc (.blt .tuple [.var 8]) (.one 8) .seq [.idx (.var 0) (.int 3)] [] [8]),
  .fr (.tup [.one 3, .one 4, .one 5, .one 6, .one 7]) .seq [.idx (.var 0) (.int 2)] givenA,
  .fr (.one 2) .seq [.slc (.call ie [.var 0]) (.int 1) .non] givenB,
  .fr (.one 2) .seq [.idx (.var 0) (.int 1)] lgivenC,
  .ret (.var 1)]⟩
def fDayOf (ic ii : Nat) : Fd := ⟨["raw", "some"], 1, [
  .asg (.one 1) (.call ic [.var 0]),
  .ret (.new "Day" ii [.idx (.var 1) (.int 0), .idx (.var 1) (.int 1), .idx (.var 1) (.int 2), .idx (.var 1) (.int 3)])]⟩
theorem ows_strs {xs : List Str} : ows (xs.map T.s) = false := ows_all fun u hu => by
  obtain ⟨y, _, rfl⟩ := List.mem_map.mp hu
  rfl
section
variable {p : Px} {Tb : List Fd} {n i : Nat}
theorem lrow_names {R : RF} {rs : List Row} (hl : rs.length ≤ 1000) {t0 t1 : T} :
    ∃ v, lcs p R (.one 1) [1] [] (.idx (.var 1) (.int 0)) (rs.map rowT) [] [t0, t1] = .ok ((rs.map (·.name)).map .s) [t0, v] := by
  have st : ∀ (r : Row) (acc : List T) (ρ : Ev), acc.length < 1000 → (∃ v, ρ = [t0, v]) → True →
      ∃ ρ', lcSt p R (.one 1) [1] [] (.idx (.var 1) (.int 0)) (rowT r) acc ρ = .ok (acc ++ (some (T.s r.name)).toList) ρ' ∧ ∃ v, ρ' = [t0, v] := by
    rintro r acc ρ hacc ⟨v, rfl⟩ _
    refine ⟨[t0, rowT r], ?_, _, rfl⟩
    unfold lcSt
    have lo := late_ow (l := r.late)
    simp_arith [rowT, lo]
  obtain ⟨ρ', e, v, rfl⟩ := lcs_mem 1000 st rs [] [t0, t1] (by simpa using hl) ⟨_, rfl⟩ (fun _ _ => trivial)
  refine ⟨v, ?_⟩
  rw [e, List.nil_append, fm_some, List.map_map]
  rfl
theorem levents_run {w : Raw} {o : Bool} (h : Tb[i]? = some fLEvents) (l1 : w.own.length ≤ 1000) (l2 : w.rows.length ≤ 1000) (hn : 1 ≤ n := by omega) : run p Tb n i [rawTo o w] = .ok (.nd .lst true (w.evs.map .s)) [rawTo o w] := by
  obtain ⟨v, e⟩ := lrow_names (p := p) (R := run p Tb (n - 1)) l2 (t0 := rawTo o w) (t1 := .un)
  have hw := ows_strs (xs := w.own)
  unfold rawTo at *
  have ev : w.evs.map T.s = T.s "open" :: (w.own.map T.s ++ (w.rows.map (·.name)).map T.s) := by simp [Raw.evs]
  rw [run_at [] h (by omega) rfl rfl, ev]
  have hnl : ((w.rows.map (·.name)).map T.s).length ≤ 1000 := by simpa using l2
  generalize (w.rows.map (·.name)).map T.s = ns at *
  simp_arith [hw, e]
theorem lrule_tuples {R : RF} {rs : List Rule} (hl : rs.length ≤ 1000) {t0 t1 t2 t3 t4 t5 t6 t7 t8 : T} :
    ∃ v, lcs p R (.one 8) [8] [] (.blt .tuple [.var 8]) (rs.map ruleT) [] [t0, t1, t2, t3, t4, t5, t6, t7, t8] = .ok (rs.map ruleT) [t0, t1, t2, t3, t4, t5, t6, t7, v] :=
  rule_tuples (fun u hu => by
    obtain ⟨r, _, rfl⟩ := List.mem_map.mp hu
    exact ⟨_, rfl⟩) (by simp) (by simpa using hl)
theorem rawTo_fz {w : Raw} {o : Bool} : fz (rawTo o w) = rawTo false w := by
  cases o with
  | false => rfl
  | true => simp [rawTo]
theorem lgiven_run {w : Raw} {o : Bool} {ie : Nat} (h : Tb[i]? = some (fLGiven ie)) (he : Tb[ie]? = some fLEvents) (l1 : w.own.length ≤ 1000) (l2 : w.rows.length ≤ 1000) (l3 : w.rules.length ≤ 1000) (hn : 2 ≤ n := by omega) :
    run p Tb n i [rawTo o w] = .ok (.nd .lst true ((linesOf w).map ruleT)) [rawTo false w] := by
  have e0 := levents_run (p := p) (Tb := Tb) (n := n - 1) (w := w) (o := false) he l1 l2
  have hlr : ∀ rs : List Row, (rs.flatMap rowLines).length = 2 * rs.length := fun rs => by
    induction rs with
    | nil => rfl
    | cons r rs ih => rw [List.flatMap_cons, List.length_append, ih]; simp [rowLines]; omega
  obtain ⟨v8, f0⟩ := lrule_tuples (p := p) (R := run p Tb (n - 1)) l3 (t0 := rawTo false w) (t1 := .un) (t2 := .un) (t3 := .un) (t4 := .un) (t5 := .un) (t6 := .un) (t7 := .un) (t8 := .un)
  obtain ⟨v3, v4, v5, v6, v7, f1⟩ := givenA_run (p := p) (R := run p Tb (n - 1)) (XI := XIat Tb (n - 1)) (rs := w.rows) (us := w.rules) (by omega) (t0 := rawTo false w) (t2 := .un) (t3 := .un) (t4 := .un) (t5 := .un) (t6 := .un) (t7 := .un) (rest := [.un])
  obtain ⟨v2, f2⟩ := givenB_run (p := p) (R := run p Tb (n - 1)) (XI := XIat Tb (n - 1)) (xs := w.own ++ w.rows.map (·.name)) (us := w.rules ++ w.rows.flatMap rowLines) (by simp [hlr]; omega) (t0 := rawTo false w) (t2 := .un) (t3 := v3) (t4 := v4) (t5 := v5) (t6 := v6) (t7 := v7) (rest := [.un])
  obtain ⟨v2', f3⟩ := givenC_run (p := p) (R := run p Tb (n - 1)) (XI := XIat Tb (n - 1)) (b := lgivenC) (cl := w.closing) (xs := w.own) (us := w.rules ++ w.rows.flatMap rowLines ++ (w.own ++ w.rows.map (·.name)).map (fun e => (⟨e, "open", 0⟩ : Rule))) (by simp [hlr]; omega) (t0 := rawTo false w) (t2 := v2) (t3 := v3) (t4 := v4) (t5 := v5) (t6 := v6) (t7 := v7) (rest := [.un])
    (fun vs x t3 t4 t5 t6 t7 hv => by
      unfold rawTo
      simp_arith [lgivenC, ruleT])
  have ecut : cutL (w.evs.map T.s) (some 1) none = (w.own ++ w.rows.map (·.name)).map T.s := by
    unfold Raw.evs
    rw [List.map_cons, cutL_1]
  have hws : ∀ xs : List Str, ows (xs.map T.s) = false := fun xs => ows_strs
  have ha1 : asgSs givenA = [] := rfl
  have ha2 : asgSs givenB = [] := rfl
  have ha3 : asgSs lgivenC = [] := rfl
  rw [run_at [1, 3, 4, 5, 6, 7, 2, 2] h (by omega) rfl rfl]
  unfold linesOf rawTo at *
  generalize hus : w.rules ++ w.rows.flatMap rowLines = us at *
  generalize hvs : (w.own ++ w.rows.map (·.name)).map (fun e => (⟨e, "open", 0⟩ : Rule)) = vs at *
  generalize hxs : (w.own ++ w.rows.map (·.name)) = xs at *
  simp only [List.map_append] at f1 f2 f3
  cases o <;> simp_arith [e0, ecut, hws, ha1, ha2, ha3, f0, f1, f2, f3]
/-! copies of raw days -/
theorem lf_s {x : Str} (h : PyData.strOk x = true) : Lf (.s x) := .inr (.inr (.inr ⟨x, rfl, h⟩))
theorem lf_i {k : Int} : Lf (.i k) := .inr (.inr (.inl ⟨k, rfl⟩))
theorem lf_late {l : Option Int} : Lf (lateT l) := by
  cases l with
  | none => exact .inl rfl
  | some k => exact lf_i
theorem copyTs_id {ts : List T} (h : ∀ t ∈ ts, copyT t = t) : copyTs ts = ts := by
  rw [copyTs_map]
  conv => rhs; rw [← List.map_id ts]
  exact List.map_congr_left h
theorem copy_strs {xs : List Str} : copyTs (xs.map T.s) = xs.map T.s := copyTs_id fun t ht => by
  obtain ⟨x, _, rfl⟩ := List.mem_map.mp ht
  unfold copyT
  rfl
theorem copy_row {r : Row} : copyT (rowT r) = rowT r := by
  unfold rowT
  rw [copyT, copyTs_id fun t ht => ?_]
  · have := row_fz (r := r)
    unfold rowT at this
    rw [z_fz_tup] at this
    exact this
  · simp only [List.mem_cons, List.not_mem_nil, or_false] at ht
    rcases ht with rfl | rfl | rfl | rfl | rfl
    · unfold copyT; rfl
    · unfold copyT; rfl
    · unfold copyT; rfl
    · unfold copyT; rfl
    · exact lf_late.fz.2
theorem copy_rows {xs : List Row} : copyTs (xs.map rowT) = xs.map rowT := copyTs_id fun t ht => by
  obtain ⟨x, _, rfl⟩ := List.mem_map.mp ht
  exact copy_row
theorem copy_rule {r : Rule} : copyT (ruleT r) = ruleT r := by
  unfold ruleT
  rw [copyT, copyTs_id fun t ht => ?_]
  · rfl
  · simp only [List.mem_cons, List.not_mem_nil, or_false] at ht
    rcases ht with rfl | rfl | rfl <;> (unfold copyT; rfl)
theorem copy_rules {xs : List Rule} : copyTs (xs.map ruleT) = xs.map ruleT := copyTs_id fun t ht => by
  obtain ⟨x, _, rfl⟩ := List.mem_map.mp ht
  exact copy_rule
theorem Cp.lf {d : Nat} {t : T} (h : Lf t) : Cp d t := by
  cases d with
  | zero => exact h
  | succ d => exact .inl h
theorem cp_row {d : Nat} {r : Row} (h : RowStr r) : Cp (d + 1) (rowT r) := .inr (.inr (.inl ⟨_, rfl, by simp, fun u hu => by
  simp only [List.mem_cons, List.not_mem_nil, or_false] at hu
  rcases hu with rfl | rfl | rfl | rfl | rfl
  · exact Cp.lf (lf_s h.1)
  · exact Cp.lf (lf_s h.2)
  · exact Cp.lf lf_i
  · exact Cp.lf lf_i
  · exact Cp.lf lf_late⟩))
def RuleStr (r : Rule) : Prop := PyData.strOk r.a = true ∧ PyData.strOk r.b = true
theorem cp_rule {d : Nat} {r : Rule} (h : RuleStr r) : Cp (d + 1) (ruleT r) := .inr (.inr (.inl ⟨_, rfl, by simp, fun u hu => by
  simp only [List.mem_cons, List.not_mem_nil, or_false] at hu
  rcases hu with rfl | rfl | rfl
  · exact Cp.lf (lf_s h.1)
  · exact Cp.lf (lf_s h.2)
  · exact Cp.lf lf_i⟩))
theorem cp_list {d : Nat} {o : Bool} {ts : List T} (hw : ows ts = false) (hl : ts.length ≤ 100000) (h : ∀ u ∈ ts, Cp d u) : Cp (d + 1) (.nd .lst o ts) := .inr (.inl ⟨_, _, rfl, fun _ => hw, hl, h⟩)
theorem nameB_ok {x : Str} (h : isNameB x = true) : PyData.strOk x = true := (isName_of h).ok
theorem RawOk.rows_str {w : Raw} (h : RawOk w) : ∀ r ∈ w.rows, RowStr r := fun r hr => ⟨nameB_ok (h.beg r hr).1, nameB_ok (h.beg r hr).2⟩
theorem RawOk.rules_str {w : Raw} (h : RawOk w) : ∀ r ∈ w.rules, RuleStr r := fun r hr => ⟨nameB_ok (h.evs _ (h.rules r hr).1), nameB_ok (h.evs _ (h.rules r hr).2.1)⟩
theorem RawOk.cp {w : Raw} (h : RawOk w) (o : Bool) : Cp 3 (rawTo o w) := by
  have l1 := h.lown
  have l2 := h.lrows
  have l3 := h.lrules
  refine .inr (.inl ⟨_, _, rfl, fun e => ?_, by simp, fun u hu => ?_⟩)
  · subst e
    rfl
  · simp only [List.mem_cons, List.not_mem_nil, or_false] at hu
    rcases hu with rfl | rfl | rfl | rfl
    · exact Cp.lf lf_i
    · exact cp_list ows_strs (by simp; omega) fun u hu => by
        obtain ⟨x, hx, rfl⟩ := List.mem_map.mp hu
        exact Cp.lf (lf_s (h.names.ok x (List.mem_append_left _ hx)))
    · exact cp_list ows_rows (by simp; omega) fun u hu => by
        obtain ⟨x, hx, rfl⟩ := List.mem_map.mp hu
        exact cp_row (h.rows_str x hx)
    · exact cp_list ows_rules (by simp; omega) fun u hu => by
        obtain ⟨x, hx, rfl⟩ := List.mem_map.mp hu
        exact cp_rule (h.rules_str x hx)
theorem copy_raw {w : Raw} {o : Bool} : copyT (rawTo o w) = .nd .lst true [.i w.closing, .nd .lst true (w.own.map .s), .nd .lst true (w.rows.map rowT), .nd .lst true (w.rules.map ruleT)] := by
  unfold rawTo
  simp only [copyT, copyTs, copy_strs, copy_rows, copy_rules]
theorem cpO_raw {w : Raw} {o : Bool} : cpO (rawTo o w) = rawTo false w := by
  cases o <;> simp [rawTo, cpO]
end
/-- the defs that make a day -/
structure DayTb (Tb : List Fd) (i0 i1 i2 i3 i4 i5 i11 i12 i13 i14 x1 x2 x3 x4 ii : Nat) : Prop where
  h0 : Tb[i0]? = some fIsInt
  h1 : Tb[i1]? = some (fIsNum i0)
  h2 : Tb[i2]? = some fIsList
  h3 : Tb[i3]? = some (fIsRow i2)
  h4 : Tb[i4]? = some fIsName
  h5 : Tb[i5]? = some fUnlike
  h11 : Tb[i11]? = some (fOwnFits i2 i4 i5)
  h12 : Tb[i12]? = some (fRowFits i0 i1 i3 i4)
  h13 : Tb[i13]? = some (fWrongNews i2 i12)
  h14 : Tb[i14]? = some (fWrongRules i0 i2 i3 i4)
  hx1 : Tb[x1]? = some (fErr "closing")
  hx2 : Tb[x2]? = some (fErr "own")
  hx3 : Tb[x3]? = some (fErr "index")
  hx4 : Tb[x4]? = some (fErr "index")
  hi : Tb[ii]? = some (fDayInit i1 i11 i13 i14 x1 x2 x3 x4)
section
variable {p : Px} {Tb : List Fd} {n i i0 i1 i2 i3 i4 i5 i11 i12 i13 i14 x1 x2 x3 x4 ii : Nat}
theorem RawOk.init {w : Raw} (h : RawOk w) (dp : DayPx p) (d : DayTb Tb i0 i1 i2 i3 i4 i5 i11 i12 i13 i14 x1 x2 x3 x4 ii) (hl : w.rules.length ≤ 1000) {o1 o2 o3 : Bool} (hn : 6 ≤ n := by omega) :
    run p Tb n ii [.nd (.obj "Day" []) true [], .i w.closing, .nd .lst o1 (w.own.map .s), .nd .lst o2 (w.rows.map rowT), .nd .lst o3 (w.rules.map ruleT)] = .ok .n [dayW true w, .i w.closing, .nd .lst o1 (w.own.map .s), .nd .lst o2 (w.rows.map rowT), .nd .lst o3 (w.rules.map ruleT)] := by
  rw [← h.res]
  have l1 := h.lown
  have l2 := h.lrows
  exact dayInit_run dp d.hi d.h0 d.h1 d.h2 d.h3 d.h4 d.h5 d.h11 d.h12 d.h13 d.h14 d.hx1 d.hx2 d.hx3 d.hx4 tgd_i tgd_lst (its_strs (fun x hx => nameB_len (h.evs x (List.mem_cons_of_mem _ (List.mem_append_left _ hx)))) (by omega))
    tgd_lst (rws_rows (fun r hr => ⟨nameB_len (h.beg r hr).1, nameB_len (h.beg r hr).2⟩) (by omega)) (fun _ e => nomatch e) tgd_lst (rws_rules (fun r hr => ⟨nameB_len (h.evs _ (h.rules r hr).1), nameB_len (h.evs _ (h.rules r hr).2.1)⟩) hl) (fun _ e => nomatch e)
theorem day_of_run {ic : Nat} {w : Raw} {o : Bool} (h : RawOk w) (dp : DayPx p) (d : DayTb Tb i0 i1 i2 i3 i4 i5 i11 i12 i13 i14 x1 x2 x3 x4 ii) (hd : Tb[i]? = some (fDayOf ic ii)) (hc : Tb[ic]? = some (fCopy ic)) (hn : 8 ≤ n := by omega) :
    run p Tb n i [rawTo o w] = .ok (dayW true w) [rawTo false w] := by
  have l3 := h.lrules
  have e1 := copy_run (p := p) hc 3 (n - 1) (by omega) (rawTo o w) (h.cp o)
  rw [copy_raw, cpO_raw] at e1
  have e2 := h.init (p := p) (Tb := Tb) (n := n - 1) dp d (by omega) (o1 := false) (o2 := false) (o3 := false)
  have uD : isUn (dayW true w) = false := rfl
  rw [run_at [1] hd (by omega) rfl rfl]
  unfold rawTo at *
  cases o <;> simp_arith [e1, e2, uD]
end
end PL
set_option Elab.async false
set_option linter.all false
set_option maxRecDepth 100000
set_option maxHeartbeats 4000000
namespace PL
open PySem PySem.Spec PyProof.Rows L2
local macro_rules
  | `(tactic| simp_arith [$as,*]) => `(tactic| simp -implicitDefEqProofs (disch := omega) [$as,*])
def fRefused (ig : Nat) : Fd := ⟨["odd", "e"], 1, [
  .tryAs [
    .ret (.lst [.str "told", .call ig [.var 0]])] "BadDay" 1 "day" "day"]⟩
section
variable {p : Px} {Tb : List Fd} {n i : Nat} {t : T}
theorem given_refuse {ind icl iow inw iru iev x : Nat} (dp : DayPx p) (h : Tb[i]? = some (fGiven ind icl iow inw iru iev)) (hnd : Tb[ind]? = some (fNeedDay x)) (hx : Tb[x]? = some (fErr "day")) (ht : Tgd p t) (hD : isDay t = false) (ho : ow t = false) (hn : 3 ≤ n := by omega) :
    run p Tb n i [t] = .ex "BadDay" (xdOf ["day"] [t]) := by
  have e := need_day_run (n := n - 1) dp hnd hx ht
  rw [hD, if_neg (by decide), fz_id t ho] at e
  have u := ht.un
  rw [run_at [1, 3, 4, 5, 6, 7, 2, 2] h (by omega) rfl rfl]
  simp_arith [u, ho, e, show asgSs givenA = [] from rfl, show asgSs givenB = [] from rfl, show asgSs (givenC icl) = [] from rfl]
theorem refused_run {ig ind icl iow inw iru iev x : Nat} (dp : DayPx p) (hb : ("BadDay" : Str) ∈ p.exs) (h : Tb[i]? = some (fRefused ig)) (hg : Tb[ig]? = some (fGiven ind icl iow inw iru iev)) (hnd : Tb[ind]? = some (fNeedDay x)) (hx : Tb[x]? = some (fErr "day")) (ht : Tgd p t) (hD : isDay t = false) (ho : ow t = false) (hn : 4 ≤ n := by omega) :
    run p Tb n i [t] = .ok (.nd .lst true [.s "day", t]) [t] := by
  have e := given_refuse (n := n - 1) dp hg hnd hx ht hD ho
  have u := ht.un
  rw [run_at [1] h (by omega) rfl rfl]
  simp_arith [u, ho, e, hb]
end
/-! ### data alike itself -/
theorem zip_self {α : Type} {l : List α} {q : α × α} (h : q ∈ l.zip l) : q.1 ∈ l ∧ q.2 = q.1 := by
  obtain ⟨a, b⟩ := q
  obtain ⟨j, hj, e⟩ := List.mem_iff_getElem.mp h
  simp at e
  exact ⟨(List.of_mem_zip h).1, e.2.symm.trans e.1⟩
theorem sm_im : ∀ {d : Nat} {t : T}, Im d t → Sm d t t
  | 0, t, h => ⟨rfl, h⟩
  | d + 1, t, h => by
    rcases h with h | ⟨ts, rfl, hl, h⟩
    · exact .inl ⟨rfl, h⟩
    · exact .inr (.inr (.inl ⟨ts, ts, rfl, rfl, im_ows h, im_ows h, rfl, hl, fun q hq => by
        obtain ⟨h1, h2⟩ := zip_self hq
        rw [h2]
        exact sm_im (h _ h1)⟩))
theorem sm_list {d : Nat} {ts : List T} {o o2 : Bool} (hw : ows ts = false) (hl : ts.length ≤ 100000) (h : ∀ u ∈ ts, Sm d u u) : Sm (d + 1) (.nd .lst o ts) (.nd .lst o2 ts) :=
  .inr (.inl ⟨_, _, _, _, rfl, rfl, hw, hw, rfl, hl, fun q hq => by
    obtain ⟨h1, h2⟩ := zip_self hq
    rw [h2]
    exact h _ h1⟩)
theorem Im.lf {d : Nat} {t : T} (h : Lf t) : Im d t := by
  cases d with
  | zero => exact h
  | succ d => exact .inl h
theorem im_rule {r : Rule} {d : Nat} (h : RuleStr r) : Im (d + 1) (ruleT r) := .inr ⟨_, rfl, by simp, fun u hu => by
  simp only [List.mem_cons, List.not_mem_nil, or_false] at hu
  rcases hu with rfl | rfl | rfl
  · exact Im.lf (lf_s h.1)
  · exact Im.lf (lf_s h.2)
  · exact Im.lf lf_i⟩
theorem im_row {r : Row} {d : Nat} (h : RowStr r) : Im (d + 1) (rowT r) := .inr ⟨_, rfl, by simp, fun u hu => by
  simp only [List.mem_cons, List.not_mem_nil, or_false] at hu
  rcases hu with rfl | rfl | rfl | rfl | rfl
  · exact Im.lf (lf_s h.1)
  · exact Im.lf (lf_s h.2)
  · exact Im.lf lf_i
  · exact Im.lf lf_i
  · exact Im.lf lf_late⟩
theorem sm_rules {us : List Rule} {o o2 : Bool} (hl : us.length ≤ 100000) (h : ∀ r ∈ us, RuleStr r) : Sm 2 (.nd .lst o (us.map ruleT)) (.nd .lst o2 (us.map ruleT)) :=
  sm_list ows_rules (by simpa using hl) fun u hu => by
    obtain ⟨r, hr, rfl⟩ := List.mem_map.mp hu
    exact sm_im (im_rule (h r hr))
theorem RawOk.lines_str {w : Raw} (h : RawOk w) : ∀ r ∈ linesOf w, RuleStr r := fun r hr => by
  have ho : PyData.strOk "open" = true := z_strOk_open
  have he : ∀ y ∈ w.own ++ w.rows.map (·.name), PyData.strOk y = true := fun y hy => nameB_ok (h.evs y (List.mem_cons_of_mem _ hy))
  rcases List.mem_append.mp hr with hr | hr
  · rcases List.mem_append.mp hr with hr | hr
    · rcases List.mem_append.mp hr with hr | hr
      · exact h.rules_str r hr
      · obtain ⟨q, hq, hr⟩ := List.mem_flatMap.mp hr
        have := h.rows_str q hq
        rcases List.mem_cons.mp hr with rfl | hr
        · exact ⟨this.2, this.1⟩
        · rw [List.mem_singleton.mp hr]
          exact this
    · obtain ⟨y, hy, rfl⟩ := List.mem_map.mp hr
      exact ⟨he y hy, ho⟩
  · obtain ⟨y, hy, rfl⟩ := List.mem_map.mp hr
    exact ⟨ho, he y (List.mem_append_left _ hy)⟩
theorem lines_len {w : Raw} : (linesOf w).length = w.rules.length + 2 * w.rows.length + (w.own.length + w.rows.length) + w.own.length := by
  have hlr : ∀ rs : List Row, (rs.flatMap rowLines).length = 2 * rs.length := fun rs => by
    induction rs with
    | nil => rfl
    | cons r rs ih => rw [List.flatMap_cons, List.length_append, ih]; simp [rowLines]; omega
  unfold linesOf
  simp [hlr]
  omega
/-! ### tests of rules against [] -/
theorem eqT_rules {o o2 : Bool} {us : List Rule} (h : ∀ r ∈ us, RuleStr r) : eqT (.nd .lst o (us.map ruleT)) (.nd .lst o2 []) = some us.isEmpty := by
  unfold eqT
  have pd : ∀ r : Rule, pdOf (ruleT r) = some (.tuple [.str r.a, .str r.b, .int r.m]) := fun r => rfl
  have e : pdOf (.nd .lst o (us.map ruleT)) = some (.list (us.map fun r => .tuple [.str r.a, .str r.b, .int r.m])) := by
    unfold pdOf
    rw [pds_map pd] <;> rfl
  rw [e]
  have s : SeqAt.shaped (.list (us.map fun r => PyData.tuple [.str r.a, .str r.b, .int r.m])) = true := shaped_list (fun d hd => by
    obtain ⟨r, hr, rfl⟩ := List.mem_map.mp hd
    simp only [PyData.canLay0]
    refine lay_all fun d hd => ?_
    simp only [List.mem_cons, List.not_mem_nil, or_false] at hd
    rcases hd with rfl | rfl | rfl
    · simp only [PyData.canLay0]; exact (h r hr).1
    · simp only [PyData.canLay0]; exact (h r hr).2
    · simp only [PyData.canLay0]) (fun d hd => by
    obtain ⟨r, hr, rfl⟩ := List.mem_map.mp hd
    simp [PyData.depth, PyData.depthAll])
  show (if (SeqAt.shaped (.list (us.map fun r => PyData.tuple [.str r.a, .str r.b, .int r.m])) && SeqAt.shaped (.list [])) = true then some (PyData.eqv (.list (us.map fun r => PyData.tuple [.str r.a, .str r.b, .int r.m])) (.list [])) else none) = _
  rw [s, if_pos (by rfl)]
  cases us <;> rfl
end PL
set_option Elab.async false
set_option linter.all false
set_option maxRecDepth 100000
set_option maxHeartbeats 4000000
/-! Given lines: the law. -/
namespace PL
open PySem PySem.Spec PyProof.Rows L2
local macro_rules
  | `(tactic| simp_arith [$as,*]) => `(tactic| simp -implicitDefEqProofs (disch := omega) [$as,*])
/-- where the draws stand -/
structure DrawTb (Tb : List Fd) (ist ip ib io im ifr inm ins inw it iru idr : Nat) : Prop where
  st : Tb[ist]? = some fStart
  p : Tb[ip]? = some fPick
  b : Tb[ib]? = some (fBetween ip)
  o : Tb[io]? = some (fOne ip)
  m : Tb[im]? = some (fMixed ip)
  f : Tb[ifr]? = some fFree
  n : Tb[inm]? = some (fName ip)
  ns : Tb[ins]? = some (fNames ip ifr inm)
  nw : Tb[inw]? = some (fNews ip io)
  t : Tb[it]? = some (fTwo ip)
  r : Tb[iru]? = some (fRules ip ib io im it)
  d : Tb[idr]? = some (fDrawDay ip ins inw iru)
theorem DrawTb.day {p : Px} {Tb : List Fd} {ist ip ib io im ifr inm ins inw it iru idr n c : Nat} {s : T} {owns parks unt : Int} (d : DrawTb Tb ist ip ib io im ifr inm ins inw it iru idr) (hs : St c s) (h1 : 1 ≤ owns ∧ 0 ≤ parks) (h2 : owns + parks ≤ 18) (hu : 0 ≤ unt) (hu2 : unt ≤ 100000) (hn : 4 ≤ n := by omega) (hc : c + 10000 < 1000000000000 := by omega) :
    ∃ w s', run p Tb n idr [s, .i owns, .i parks, .i unt] = .ok (rawT w) [s', .i owns, .i parks, .i unt] ∧ RawOk w ∧ (w.own.length ≤ owns ∧ w.rows.length ≤ parks ∧ w.closing ≤ unt ∧ w.rules.length ≤ 12) ∧ St (c + 5000) s' :=
  day_run d.d d.p d.f d.n d.ns d.o d.nw d.b d.m d.t d.r hs h1 h2 hu hu2
/-- a day's methods -/
structure MethTb (Tb : List Fd) (icl iow inw iru iev ind x ig : Nat) : Prop where
  cl : Tb[icl]? = some fClosing
  ow : Tb[iow]? = some (fTell "_own")
  nw : Tb[inw]? = some (fTell "_news")
  ru : Tb[iru]? = some (fTell "_rules")
  ev : Tb[iev]? = some (fTell "_events")
  nd : Tb[ind]? = some (fNeedDay x)
  x : Tb[x]? = some (fErr "day")
  g : Tb[ig]? = some (fGiven ind icl iow inw iru iev)
def law12R : List Cm := [
    .asg (.one 4) (.call 41 [.var 3]),
    .asg (.one 5) (.call 37 [.var 3]),
    .asg (.one 6) (.call 23 [.var 4]),
    .ite (.not (.call 38 [.var 6, .var 5])) [
      .ret (.bl false)] [],
    .ex (.call 40 [.var 6]),
    .ite (.or (.not (.call 38 [.call 23 [.var 4], .var 5])) (.not (.call 38 [.meth "Day" "rules" 19 (.var 4) [], .idx (.var 3) (.int 3)]))) [
      .ret (.bl false)] [],
    .asg (.one 7) (.call 25 [.var 1, .int 5001]),
    .asg (.one 8) (.new "Day" 15 [.var 7, .blt .list [.idx (.var 3) (.int 1)], .blt .list [.idx (.var 3) (.int 2)], .lst []]),
    .ite (.or (.not (.call 38 [.call 23 [.var 8], .call 37 [.lst [.var 7, .idx (.var 3) (.int 1), .idx (.var 3) (.int 2), .lst []]]])) (.not (.call 38 [.call 23 [.var 4], .var 5]))) [
      .ret (.bl false)] []]
def law12B : List Cm :=
    .asg (.one 3) (.call 35 [.var 1, .int 6, .int 5, .ite (.cmp .Eq (.call 25 [.var 1, .int 2]) (.int 0)) (.int 5000) (.int 30)]) ::
    .ite (.cmp .NotEq (.idx (.var 3) (.int 3)) (.lst [])) [
      .ex (.mth .append (.idx (.var 3) (.int 3)) [.idx (.idx (.var 3) (.int 3)) (.int 0)])] [] :: law12R
def odds12 : Ex := .tup [.non, .int 5, .str "day", .lst [.int 4, .lst [], .lst [], .lst []], .dct [] []]
def fLaw12 : Fd := ⟨["script", "state", "turn", "raw", "day", "due", "found", "closing", "other", "odd"], 1, [
  .asg (.one 1) (.call 24 [.var 0]),
  .fr (.one 2) .rng1 [.int 3] law12B,
  .ret (.blt .all [.lc (.call 38 [.call 42 [.var 9], .lst [.str "day", .var 9]]) (.one 9) .seq [odds12] [] [9]])]⟩
structure Tb12 (Tb : List Fd) : Prop where
  d : DayTb Tb 0 1 2 3 4 5 11 12 13 14 6 7 8 9 15
  m : MethTb Tb 16 17 18 19 20 22 10 23
  dr : DrawTb Tb 24 25 26 27 28 29 30 31 32 33 34 35
  le : Tb[36]? = some fLEvents
  lg : Tb[37]? = some (fLGiven 36)
  s : Tb[38]? = some (fSame 38)
  c : Tb[39]? = some (fCopy 39)
  sp : Tb[40]? = some (fSpoil 40)
  dy : Tb[41]? = some (fDayOf 39 15)
  rf : Tb[42]? = some (fRefused 23)
  l : Tb[43]? = some fLaw12
section
variable {p : Px} {Tb : List Fd} {n : Nat}
theorem law12_rest {XI : Nat → Option (List Str)} {w : Raw} {c : Nat} {s t0 t2 t4 t5 t6 t7 t8 t9 : T} (dp : DayPx p) (h : Tb12 Tb) (hw : RawOk w) (hs : St c s) (hn : 20 ≤ n) (hc : c + 100 < 1000000000000) :
    ∃ s' u4 u5 u7 u8, svs p (run p Tb n) XI law12R [t0, s, t2, rawTo true w, t4, t5, t6, t7, t8, t9] = .nx [t0, s', t2, rawTo false w, u4, u5, .un, u7, u8, t9] ∧ St (c + 10) s' := by
  have l1 := hw.lown
  have l2 := hw.lrows
  have l3 := hw.lrules
  have hll : (linesOf w).length ≤ 1000 := by rw [lines_len]; omega
  have hst := hw.lines_str
  have e1 := day_of_run (p := p) (n := n) (o := true) hw dp h.d h.dy h.c
  have e2 := lgiven_run (p := p) (n := n) (w := w) (o := false) h.lg h.le (by omega) (by omega) (by omega)
  have e3 := given_run (p := p) (n := n) (w := w) (o := true) dp h.m.g h.m.nd h.m.x h.m.cl h.m.ow h.m.nw h.m.ru h.m.ev (by omega) (by omega) (by omega)
  have e4 := same_run (p := p) h.s 2 n (by omega) _ _ (sm_rules (o := true) (o2 := true) (by omega) hst)
  have e5 := spoil_list (p := p) h.sp (d := 1) (n := n) (ts := (linesOf w).map ruleT) (by omega) (by simp; omega) (fun u hu => by
    obtain ⟨r, hr, rfl⟩ := List.mem_map.mp hu
    exact im_rule (hst r hr))
  have e6 := rules_tell (p := p) (n := n) (o := true) (cl := w.closing) (own := w.own) (news := w.rows.map rowT) (rules := w.rules.map ruleT) dp h.m.ru ows_rules
  have e7 := same_run (p := p) h.s 2 n (by omega) _ _ (sm_rules (o := true) (o2 := false) (us := w.rules) (by omega) hw.rules_str)
  obtain ⟨d, s1, e8, a8, b8, hs1⟩ := pick_run (p := p) (n := n) (many := 5001) h.dr.p hs
  have hw2 : RawOk { w with closing := d, rules := [] } := ⟨a8, by show d ≤ 100000; omega, hw.names, hw.news, hw.bnd, fun r hr => (nomatch hr), hw.lown, hw.lrows, by simp⟩
  have e9 := hw2.init (p := p) (Tb := Tb) (n := n) dp h.d (by simp) (o1 := true) (o2 := true) (o3 := true)
  have e10 := given_run (p := p) (n := n) (w := { w with closing := d, rules := [] }) (o := true) dp h.m.g h.m.nd h.m.x h.m.cl h.m.ow h.m.nw h.m.ru h.m.ev (by show w.own.length ≤ 1000; omega) (by show w.rows.length ≤ 1000; omega) (by simp)
  have e11 := lgiven_run (p := p) (n := n) (w := { w with closing := d, rules := [] }) (o := true) h.lg h.le (by show w.own.length ≤ 1000; omega) (by show w.rows.length ≤ 1000; omega) (by simp)
  have e12 := same_run (p := p) h.s 2 n (by omega) _ _ (sm_rules (o := true) (o2 := true) (us := linesOf { w with closing := d, rules := [] }) (by rw [lines_len]; show 0 + 2 * w.rows.length + (w.own.length + w.rows.length) + w.own.length ≤ 100000; omega) hw2.lines_str)
  have m1 : DF.contains "rules" = false := by decide +kernel
  have hws := ows_strs (xs := w.own)
  have bD : isObj "Day" "rules" (some (dayW true w)) = true := day_obj m1
  have uD : ∀ v, isUn (dayW true v) = false := fun _ => rfl
  have oD : ∀ v, ow (dayW true v) = true := fun _ => rfl
  have eD : dayT true w.closing w.own (w.rows.map rowT) (w.rules.map ruleT) = dayW true w := rfl
  rw [eD] at e6
  generalize hg2 : linesOf { w with closing := d, rules := [] } = gs2 at *
  generalize hg1 : linesOf w = gs at *
  generalize hD2 : dayW true { w with closing := d, rules := [] } = D2 at *
  have uD2 : isUn D2 = false := by rw [← hD2]; rfl
  have oD2 : ow D2 = true := by rw [← hD2]; rfl
  unfold rawTo unD at *
  simp only [List.map_nil] at e9 e11
  refine ⟨s1, dayW true w, .nd .lst true (gs.map ruleT), .i d, D2, ?_, hs1.up (by omega)⟩
  simp_arith [law12R, e1, e2, e3, e4, e5, e6, e7, e8, e9, e10, e11, e12, bD, uD, oD, uD2, oD2, hs.un, hs.ow, hs1.un, hs1.ow, hws]
theorem law12_turn {XI : Nat → Option (List Str)} {c : Nat} {s t0 t2 t3 t4 t5 t6 t7 t8 t9 : T} (dp : DayPx p) (h : Tb12 Tb) (hs : St c s) (hn : 20 ≤ n) (hc : c + 20000 < 1000000000000) :
    ∃ s' u3 u4 u5 u7 u8, svs p (run p Tb n) XI law12B [t0, s, t2, t3, t4, t5, t6, t7, t8, t9] = .nx [t0, s', t2, u3, u4, u5, .un, u7, u8, t9] ∧ St (c + 6000) s' := by
  obtain ⟨d, s1, e1, a1, b1, hs1⟩ := pick_run (p := p) (n := n) (many := 2) h.dr.p hs
  obtain ⟨unt, hu, hu2, eu⟩ : ∃ unt : Int, 0 ≤ unt ∧ unt ≤ 5000 ∧ unt = if d = 0 then 5000 else 30 := ⟨_, by split <;> omega, by split <;> omega, rfl⟩
  obtain ⟨w, s2, e2, hw, _, hs2⟩ := h.dr.day (p := p) (n := n) (owns := 6) (parks := 5) (unt := unt) hs1 (by omega) (by omega) hu (by omega)
  have eq := eqT_rules (o := true) (o2 := true) hw.rules_str
  by_cases hr : w.rules = []
  · obtain ⟨s3, u4, u5, u7, u8, e3, hs3⟩ := law12_rest (XI := XI) (t0 := t0) (t2 := t2) (t4 := t4) (t5 := t5) (t6 := t6) (t7 := t7) (t8 := t8) (t9 := t9) dp h hw hs2 hn (by omega)
    refine ⟨s3, rawTo false w, u4, u5, u7, u8, ?_, hs3.up (by omega)⟩
    rw [hr] at eq
    have q : rawT w = .nd .lst true [.i w.closing, .nd .lst false (w.own.map .s), .nd .lst false (w.rows.map rowT), .nd .lst true []] := by
      unfold rawT
      rw [hr]
      rfl
    rw [← rawTo_t, q] at e3
    rw [q] at e2
    by_cases hd : d = 0
    · rw [if_pos hd] at eu
      subst eu
      simp_arith [law12B, e1, hs.un, hs.ow, hs1.un, hs1.ow, hs2.un, hd, e2, eqT_nil, e3]
    · rw [if_neg hd] at eu
      subst eu
      simp_arith [law12B, e1, hs.un, hs.ow, hs1.un, hs1.ow, hs2.un, hd, e2, eqT_nil, e3]
  · obtain ⟨r, rs, er⟩ := List.exists_cons_of_ne_nil hr
    have hw2 : RawOk { w with rules := w.rules ++ [r] } := ⟨hw.cl0, hw.cl1, hw.names, hw.news, hw.bnd, fun q hq => by
      rcases List.mem_append.mp hq with hq | hq
      · exact hw.rules q hq
      · rw [List.mem_singleton.mp hq]
        exact hw.rules r (by rw [er]; exact List.mem_cons_self), hw.lown, hw.lrows, by
      have : w.rules.length ≤ 12 := by
        have := ‹w.own.length ≤ (6 : Int) ∧ _›
        exact this.2.2.2
      show (w.rules ++ [r]).length ≤ 40
      simp
      omega⟩
    obtain ⟨s3, u4, u5, u7, u8, e3, hs3⟩ := law12_rest (XI := XI) (t0 := t0) (t2 := t2) (t4 := t4) (t5 := t5) (t6 := t6) (t7 := t7) (t8 := t8) (t9 := t9) dp h hw2 hs2 hn (by omega)
    refine ⟨s3, rawTo false { w with rules := w.rules ++ [r] }, u4, u5, u7, u8, ?_, hs3.up (by omega)⟩
    rw [er] at eq
    have hl := hw.lrules
    rw [er] at hl
    simp only [List.length_cons] at hl
    have q : rawT w = .nd .lst true [.i w.closing, .nd .lst false (w.own.map .s), .nd .lst false (w.rows.map rowT), .nd .lst true (ruleT r :: rs.map ruleT)] := by
      unfold rawT
      rw [er]
      rfl
    have q2 : rawTo true { w with rules := w.rules ++ [r] } = .nd .lst true [.i w.closing, .nd .lst false (w.own.map .s), .nd .lst false (w.rows.map rowT), .nd .lst true (ruleT r :: (rs.map ruleT ++ [ruleT r]))] := by
      unfold rawTo
      simp [er]
    have ru : isUn (ruleT r) = false := rfl
    have ro : ow (ruleT r) = false := rfl
    rw [q2] at e3
    rw [q] at e2
    simp only [List.map_cons, List.isEmpty_cons] at eq
    by_cases hd : d = 0
    · rw [if_pos hd] at eu
      subst eu
      simp_arith [law12B, e1, hs.un, hs.ow, hs1.un, hs1.ow, hs2.un, hd, e2, eq, ru, ro, e3]
    · rw [if_neg hd] at eu
      subst eu
      simp_arith [law12B, e1, hs.un, hs.ow, hs1.un, hs1.ow, hs2.un, hd, e2, eq, ru, ro, e3]
def oddsT : List T := [.n, .i 5, .s "day", .nd .lst false [.i 4, .nd .lst false [], .nd .lst false [], .nd .lst false []], .nd (.dct []) false []]
theorem sm_nil {d : Nat} {o o2 : Bool} : Sm (d + 1) (.nd .lst o []) (.nd .lst o2 []) := sm_list rfl (by simp) fun _ h => nomatch h
theorem odds_ok : ∀ t ∈ oddsT, Tgd p t ∧ isDay t = false ∧ ow t = false ∧ Sm 3 t t := by
  intro t ht
  simp only [oddsT, List.mem_cons, List.not_mem_nil, or_false] at ht
  rcases ht with rfl | rfl | rfl | rfl | rfl
  · exact ⟨tgd_n, rfl, rfl, Sm.lf (.inl rfl)⟩
  · exact ⟨tgd_i, rfl, rfl, Sm.lf lf_i⟩
  · exact ⟨tgd_s, rfl, rfl, Sm.lf (lf_s (by decide +kernel))⟩
  · refine ⟨tgd_lst, rfl, rfl, sm_list rfl (by simp) fun u hu => ?_⟩
    simp only [List.mem_cons, List.not_mem_nil, or_false] at hu
    rcases hu with rfl | rfl | rfl | rfl
    · exact Sm.lf lf_i
    all_goals exact sm_nil
  · exact ⟨tgd_dct, rfl, rfl, .inr (.inr (.inr ⟨_, _, _, _, _, rfl, rfl, rfl, by simp, by simp, (by decide : 1 ≤ 2), rfl, rfl, rfl, by simp, by simp⟩))⟩
theorem law12_odds (dp : DayPx p) (hb : ("BadDay" : Str) ∈ p.exs) (h : Tb12 Tb) (hn : 20 ≤ n) {t0 t1 t2 t3 t4 t5 t6 t7 t8 t9 : T} :
    ∃ v, lcs p (run p Tb n) (.one 9) [9] [] (.call 38 [.call 42 [.var 9], .lst [.str "day", .var 9]]) oddsT [] [t0, t1, t2, t3, t4, t5, t6, t7, t8, t9] = .ok (oddsT.map fun _ => T.b true) [t0, t1, t2, t3, t4, t5, t6, t7, t8, v] := by
  have hd : PyData.strOk "day" = true := by decide +kernel
  have st : ∀ (u : T) (acc : List T) (ρ : Ev), acc.length < 100 → (∃ v, ρ = [t0, t1, t2, t3, t4, t5, t6, t7, t8, v]) → u ∈ oddsT →
      ∃ ρ', lcSt p (run p Tb n) (.one 9) [9] [] (.call 38 [.call 42 [.var 9], .lst [.str "day", .var 9]]) (id u) acc ρ = .ok (acc ++ (some (T.b true)).toList) ρ' ∧ ∃ v, ρ' = [t0, t1, t2, t3, t4, t5, t6, t7, t8, v] := by
    rintro u acc ρ hacc ⟨v, rfl⟩ hm
    obtain ⟨g1, g2, g3, g4⟩ := odds_ok (p := p) u hm
    have e1 := refused_run (n := n) dp hb h.rf h.m.g h.m.nd h.m.x g1 g2 g3
    have e2 := same_run (p := p) h.s 4 n (by omega) (.nd .lst true [.s "day", u]) (.nd .lst true [.s "day", u]) (sm_list (by simp [g3]) (by simp) fun q hq => by
      simp only [List.mem_cons, List.not_mem_nil, or_false] at hq
      rcases hq with rfl | rfl
      · exact Sm.lf (lf_s hd)
      · exact g4)
    have gu := g1.un
    refine ⟨[t0, t1, t2, t3, t4, t5, t6, t7, t8, u], ?_, _, rfl⟩
    unfold lcSt
    unfold unD at e2
    simp_arith [gu, g3, e1, e2]
  obtain ⟨ρ', e, v, rfl⟩ := lcs_mem 100 st oddsT [] [t0, t1, t2, t3, t4, t5, t6, t7, t8, t9] (by decide) ⟨_, rfl⟩ (fun _ h => h)
  refine ⟨v, ?_⟩
  rw [List.map_id] at e
  rw [e, List.nil_append, fm_some]
theorem law12_run {ns : List Int} (dp : DayPx p) (hb : ("BadDay" : Str) ∈ p.exs) (h : Tb12 Tb) (hn : 40 ≤ n) : ∃ os, run p Tb n 43 [.scr ns] = .ok (.b true) os := by
  obtain ⟨s0, e0, hs0⟩ := start_run (p := p) (Tb := Tb) (n := n - 1) (ns := ns) h.dr.st
  let I : List Nat → Ev → Prop := fun its ρ => ∃ s t2 t3 t4 t5 t6 t7 t8, ρ = [.scr ns, s, t2, t3, t4, t5, t6, t7, t8, .un] ∧ its.length ≤ 3 ∧ St (6000 * (3 - its.length)) s
  have st : ∀ (t : Nat) (r : List Nat) (ρ : Ev), I (t :: r) ρ → Turn p (run p Tb (n - 1)) (XIat Tb (n - 1)) (.one 2) law12B (.i t) ρ (I r) := by
    rintro t r ρ ⟨s, t2, t3, t4, t5, t6, t7, t8, rfl, h1, h2⟩
    simp only [List.length_cons] at h1 h2
    obtain ⟨s', u3, u4, u5, u7, u8, e, h3⟩ := law12_turn (p := p) (n := n - 1) (XI := XIat Tb (n - 1)) (t0 := .scr ns) (t2 := .i t) (t3 := t3) (t4 := t4) (t5 := t5) (t6 := t6) (t7 := t7) (t8 := t8) (t9 := .un) dp h h2 (by omega) (by omega)
    exact turn_of rfl ⟨s', _, _, _, _, _, _, _, rfl, by omega, h3.up (by omega)⟩ e
  obtain ⟨ρ', e, s, t2, t3, t4, t5, t6, t7, t8, rfl, _, h3⟩ := fvs_map st (List.range 3) [.scr ns, s0, .un, .un, .un, .un, .un, .un, .un, .un] ⟨s0, _, _, _, _, _, _, _, rfl, by simp, by simpa using hs0⟩
  obtain ⟨v, e2⟩ := law12_odds (p := p) (n := n - 1) dp hb h (by omega) (t0 := .scr ns) (t1 := s) (t2 := t2) (t3 := t3) (t4 := t4) (t5 := t5) (t6 := t6) (t7 := t7) (t8 := t8) (t9 := .un)
  have ha : asgSs law12B = [3, 4, 5, 6, 7, 8] := rfl
  have hr : rngT (3 : Int).toNat = (List.range 3).map fun (t : Nat) => T.i (t : Int) := rfl
  refine ⟨[.scr ns], ?_⟩
  rw [run_at [1, 2, 3, 4, 5, 6, 7, 8] h.l (by omega) rfl rfl]
  simp_arith [e0, hs0.un, ha]
  rw [show rngT 3 = (List.range 3).map (fun (t : Nat) => T.i (t : Int)) from rfl, e]
  unfold oddsT at e2
  simp_arith [odds12, e2]
end
end PL
set_option Elab.async false
set_option linter.all false
set_option maxRecDepth 100000
set_option maxHeartbeats 16000000
namespace K12
open PySem PySem.Spec PyProof.Rows L2 PL
abbrev PR : Program := PySem.Challenge.pw_dayled_k12_given_lines
def px : Px where
  ds := defsOf PR.main.body
  cls := ["Day"]
  exs := ["BadClosing", "BadOwn", "BadNews", "BadRules", "BadDay"]
  txts := [("LETTERS", "abcdefghijklmnopqrstuvwxyz"), ("FIGURES", "0123456789"), ("OPENING", "open")]
  free := ["isinstance", "int", "bool", "list", "tuple", "len", "str", "all", "enumerate", "abs", "max", "range", "zip", "dict"]
  noat := [("Day", "_closing"), ("Day", "_own"), ("Day", "_news"), ("Day", "_rules"), ("Day", "_events"), ("BadClosing", "closing"), ("BadOwn", "own"), ("BadNews", "index"), ("BadRules", "index"), ("BadDay", "day")]
/-- 0: is_integer(thing) -/
abbrev f0 : Fd := ⟨["thing"], 1, [
  .ret (.and (.blt .isinst [.var 0, .ty "int"]) (.not (.blt .isinst [.var 0, .ty "bool"])))]⟩
/-- 1: is_number(thing) -/
abbrev f1 : Fd := ⟨["thing"], 1, [
  .ret (.and (.call 0 [.var 0]) (.cmp .GtE (.var 0) (.int 0)))]⟩
/-- 2: is_list(thing) -/
abbrev f2 : Fd := ⟨["thing"], 1, [
  .ret (.blt .isinst [.var 0, .tup [.ty "list", .ty "tuple"]])]⟩
/-- 3: is_row(thing, many) -/
abbrev f3 : Fd := ⟨["thing", "many"], 2, [
  .ret (.and (.call 2 [.var 0]) (.cmp .Eq (.blt .len [.var 0]) (.var 1)))]⟩
/-- 4: is_event_name(thing) -/
abbrev f4 : Fd := ⟨["thing", "sign"], 1, [
  .ite (.or (.not (.blt .isinst [.var 0, .ty "str"])) (.not (.chain .LtE .LtE (.int 1) (.blt .len [.var 0]) (.int 12)))) [
    .ret (.bl false)] [],
  .ite (.cmp .NotIn (.idx (.var 0) (.int 0)) (.str "abcdefghijklmnopqrstuvwxyz")) [
    .ret (.bl false)] [],
  .ret (.blt .all [.lc (.or (.cmp .In (.var 1) (.str "abcdefghijklmnopqrstuvwxyz")) (.cmp .In (.var 1) (.str "0123456789"))) (.one 1) .seq [.var 0] [] [1]])]⟩
/-- 5: are_unlike(words) -/
abbrev f5 : Fd := ⟨["words", "seen", "word"], 1, [
  .asg (.one 1) (.dct [] []),
  .fr (.one 2) .seq [.var 0] [
    .ite (.cmp .In (.var 2) (.var 1)) [
      .ret (.bl false)] [],
    .sub (.var 1) (.var 2) (.bl true)],
  .ret (.bl true)]⟩
/-- 6: BadClosing.__init__(self, closing) -/
abbrev f6 : Fd := ⟨["self", "closing"], 2, [
  .fld (.var 0) "closing" (.var 1)]⟩
/-- 7: BadOwn.__init__(self, own) -/
abbrev f7 : Fd := ⟨["self", "own"], 2, [
  .fld (.var 0) "own" (.var 1)]⟩
/-- 8: BadNews.__init__(self, index) -/
abbrev f8 : Fd := ⟨["self", "index"], 2, [
  .fld (.var 0) "index" (.var 1)]⟩
/-- 9: BadRules.__init__(self, index) -/
abbrev f9 : Fd := ⟨["self", "index"], 2, [
  .fld (.var 0) "index" (.var 1)]⟩
/-- 10: BadDay.__init__(self, day) -/
abbrev f10 : Fd := ⟨["self", "day"], 2, [
  .fld (.var 0) "day" (.var 1)]⟩
/-- 11: own_fits(own) -/
abbrev f11 : Fd := ⟨["own", "name"], 1, [
  .ite (.not (.call 2 [.var 0])) [
    .ret (.bl false)] [],
  .ite (.not (.blt .all [.lc (.and (.call 4 [.var 1]) (.cmp .NotEq (.var 1) (.str "open"))) (.one 1) .seq [.var 0] [] [1]])) [
    .ret (.bl false)] [],
  .ret (.call 5 [.var 0])]⟩
/-- 12: row_fits(row, names, begins) -/
abbrev f12 : Fd := ⟨["row", "names", "begins", "name", "begin", "least", "most", "late"], 3, [
  .ite (.not (.call 3 [.var 0, .int 5])) [
    .ret (.bl false)] [],
  .asg (.tup [.one 3, .one 4, .one 5, .one 6, .one 7]) (.var 0),
  .ite (.or (.not (.call 4 [.var 3])) (.cmp .In (.var 3) (.var 1))) [
    .ret (.bl false)] [],
  .ite (.or (.not (.call 4 [.var 4])) (.cmp .NotIn (.var 4) (.var 2))) [
    .ret (.bl false)] [],
  .ite (.or (.not (.call 0 [.var 5])) (.or (.not (.call 0 [.var 6])) (.not (.chain .LtE .LtE (.int 1) (.var 5) (.var 6))))) [
    .ret (.bl false)] [],
  .ret (.or (.cmp .Is (.var 7) .non) (.call 1 [.var 7]))]⟩
/-- 13: wrong_news(own, news) -/
abbrev f13 : Fd := ⟨["own", "news", "names", "begins", "name", "index", "row"], 2, [
  .ite (.not (.call 2 [.var 1])) [
    .ret (.int 0)] [],
  .asg (.one 2) (.dct [.str "open"] [.bl true]),
  .asg (.one 3) (.dct [.str "open"] [.bl true]),
  .fr (.one 4) .seq [.var 0] [
    .sub (.var 2) (.var 4) (.bl true),
    .sub (.var 3) (.var 4) (.bl true)],
  .fr (.tup [.one 5, .one 6]) .enum [.var 1] [
    .ite (.not (.call 12 [.var 6, .var 2, .var 3])) [
      .ret (.var 5)] [],
    .sub (.var 2) (.idx (.var 6) (.int 0)) (.bl true),
    .ite (.and (.cmp .IsNot (.idx (.var 6) (.int 4)) .non) (.cmp .Eq (.idx (.var 6) (.int 4)) (.int 0))) [
      .sub (.var 3) (.idx (.var 6) (.int 0)) (.bl true)] []],
  .ret .non]⟩
/-- 14: wrong_rules(events, rules) -/
abbrev f14 : Fd := ⟨["events", "rules", "index", "rule", "first", "second", "most"], 2, [
  .ite (.not (.call 2 [.var 1])) [
    .ret (.int 0)] [],
  .fr (.tup [.one 2, .one 3]) .enum [.var 1] [
    .ite (.not (.call 3 [.var 3, .int 3])) [
      .ret (.var 2)] [],
    .asg (.tup [.one 4, .one 5, .one 6]) (.var 3),
    .ite (.or (.not (.call 4 [.var 4])) (.or (.not (.call 4 [.var 5])) (.not (.call 0 [.var 6])))) [
      .ret (.var 2)] [],
    .ite (.or (.cmp .Eq (.var 4) (.var 5)) (.or (.cmp .NotIn (.var 4) (.var 0)) (.cmp .NotIn (.var 5) (.var 0)))) [
      .ret (.var 2)] []],
  .ret .non]⟩
/-- 15: Day.__init__(self, closing, own, news, rules) -/
abbrev f15 : Fd := ⟨["self", "closing", "own", "news", "rules", "at", "events", "row", "rule"], 5, [
  .ite (.not (.call 1 [.var 1])) [
    .raise "BadClosing" 6 [.var 1]] [],
  .ite (.not (.call 11 [.var 2])) [
    .raise "BadOwn" 7 [.var 2]] [],
  .asg (.one 5) (.call 13 [.var 2, .var 3]),
  .ite (.cmp .IsNot (.var 5) .non) [
    .raise "BadNews" 8 [.var 5]] [],
  .asg (.one 6) (.bin .Add (.bin .Add (.lst [.str "open"]) (.blt .list [.var 2])) (.lc (.idx (.var 7) (.int 0)) (.one 7) .seq [.var 3] [] [7])),
  .asg (.one 5) (.call 14 [.var 6, .var 4]),
  .ite (.cmp .IsNot (.var 5) .non) [
    .raise "BadRules" 9 [.var 5]] [],
  .fld (.var 0) "_closing" (.var 1),
  .fld (.var 0) "_own" (.blt .list [.var 2]),
  .fld (.var 0) "_news" (.lc (.blt .tuple [.var 7]) (.one 7) .seq [.var 3] [] [7]),
  .fld (.var 0) "_rules" (.lc (.blt .tuple [.var 8]) (.one 8) .seq [.var 4] [] [8]),
  .fld (.var 0) "_events" (.var 6)]⟩
/-- 16: Day.closing(self) -/
abbrev f16 : Fd := ⟨["self"], 1, [
  .ret (.attr (.var 0) "_closing")]⟩
/-- 17: Day.own(self) -/
abbrev f17 : Fd := ⟨["self"], 1, [
  .ret (.blt .list [.attr (.var 0) "_own"])]⟩
/-- 18: Day.news(self) -/
abbrev f18 : Fd := ⟨["self"], 1, [
  .ret (.blt .list [.attr (.var 0) "_news"])]⟩
/-- 19: Day.rules(self) -/
abbrev f19 : Fd := ⟨["self"], 1, [
  .ret (.blt .list [.attr (.var 0) "_rules"])]⟩
/-- 20: Day.events(self) -/
abbrev f20 : Fd := ⟨["self"], 1, [
  .ret (.blt .list [.attr (.var 0) "_events"])]⟩
/-- 21: Day.__eq__(self, other) -/
abbrev f21 : Fd := ⟨["self", "other"], 2, [
  .ite (.not (.blt .isinst [.var 1, .cls "Day"])) [
    .ret (.bl false)] [],
  .ite (.or (.cmp .NotEq (.attr (.var 0) "_closing") (.attr (.var 1) "_closing")) (.cmp .NotEq (.attr (.var 0) "_own") (.attr (.var 1) "_own"))) [
    .ret (.bl false)] [],
  .ret (.and (.cmp .Eq (.attr (.var 0) "_news") (.attr (.var 1) "_news")) (.cmp .Eq (.attr (.var 0) "_rules") (.attr (.var 1) "_rules")))]⟩
/-- 22: need_day(day) -/
abbrev f22 : Fd := ⟨["day"], 1, [
  .ite (.not (.blt .isinst [.var 0, .cls "Day"])) [
    .raise "BadDay" 10 [.var 0]] []]⟩
/-- 23: given_lines(day) -/
abbrev f23 : Fd := ⟨["day", "told", "event", "name", "begin", "least", "most", "_"], 1, [
  .ex (.call 22 [.var 0]),
  .asg (.one 1) (.meth "Day" "rules" 19 (.var 0) []),
  .fr (.tup [.one 3, .one 4, .one 5, .one 6, .one 7]) .seq [.meth "Day" "news" 18 (.var 0) []] [
    .ex (.mth .append (.var 1) [.tup [.var 4, .var 3, .var 6]]),
    .ex (.mth .append (.var 1) [.tup [.var 3, .var 4, .neg (.var 5)]])],
  .fr (.one 2) .seq [.slc (.meth "Day" "events" 20 (.var 0) []) (.int 1) .non] [
    .ex (.mth .append (.var 1) [.tup [.var 2, .str "open", .int 0]])],
  .fr (.one 2) .seq [.meth "Day" "own" 17 (.var 0) []] [
    .ex (.mth .append (.var 1) [.tup [.str "open", .var 2, .meth "Day" "closing" 16 (.var 0) []]])],
  .ret (.var 1)]⟩
/-- 24: _law_start(script) -/
abbrev f24 : Fd := ⟨["script"], 1, [
  .ret (.lst [.blt .list [.var 0], .int 0, .int 0, .int 29])]⟩
/-- 25: _law_pick(state, many) -/
abbrev f25 : Fd := ⟨["state", "many", "mixed", "cell", "digit"], 2, [
  .sub (.var 0) (.int 2) (.bin .Add (.idx (.var 0) (.int 2)) (.int 1)),
  .whl (.and (.cmp .Eq (.idx (.var 0) (.int 1)) (.int 0)) (.cmp .NotEq (.idx (.var 0) (.int 0)) (.lst []))) [
    .asg (.one 3) (.blt .abs [.mth .pop1 (.idx (.var 0) (.int 0)) [.int 0]]),
    .sub (.var 0) (.int 3) (.bin .Mod (.blt .int [.bin .Add (.bin .Add (.bin .Mult (.idx (.var 0) (.int 3)) (.int 6151)) (.var 3)) (.int 5)]) (.int 2147483647)),
    .sub (.var 0) (.int 1) (.ite (.cmp .GtE (.var 3) (.bin .Pow (.int 10) (.int 18))) (.var 3) (.int 0))],
  .ite (.cmp .Gt (.idx (.var 0) (.int 1)) (.int 0)) [
    .asg (.one 4) (.bin .Mod (.blt .int [.idx (.var 0) (.int 1)]) (.var 1)),
    .sub (.var 0) (.int 1) (.bin .FloorDiv (.idx (.var 0) (.int 1)) (.var 1)),
    .ret (.var 4)] [],
  .asg (.one 2) (.bin .Mod (.blt .int [.bin .Pow (.bin .Add (.bin .Add (.idx (.var 0) (.int 3)) (.bin .Mult (.int 7907) (.idx (.var 0) (.int 2)))) (.int 104723)) (.int 5)]) (.int 2147483629)),
  .ret (.bin .Mod (.bin .Mod (.blt .int [.bin .Pow (.bin .Add (.bin .Add (.bin .Mult (.var 2) (.int 48271)) (.bin .Mult (.int 30011) (.idx (.var 0) (.int 2)))) (.int 31)) (.int 3)]) (.int 1000000007)) (.var 1))]⟩
/-- 26: _law_between(state, low, high) -/
abbrev f26 : Fd := ⟨["state", "low", "high"], 3, [
  .ret (.bin .Add (.var 1) (.call 25 [.var 0, .bin .Add (.blt .max [.bin .Sub (.var 2) (.var 1), .int 0]) (.int 1)]))]⟩
/-- 27: _law_one(state, things) -/
abbrev f27 : Fd := ⟨["state", "things"], 2, [
  .ret (.idx (.var 1) (.call 25 [.var 0, .blt .len [.var 1]]))]⟩
/-- 28: _law_mixed(state, things) -/
abbrev f28 : Fd := ⟨["state", "things", "k", "left", "found"], 2, [
  .par2 3 4 (.blt .list [.var 1]) (.lst []),
  .fr (.one 2) .rng1 [.blt .len [.var 3]] [
    .ex (.mth .append (.var 4) [.mth .pop1 (.var 3) [.call 25 [.var 0, .blt .len [.var 3]]]])],
  .ret (.var 4)]⟩
/-- 29: _law_free_name(taken, word) -/
abbrev f29 : Fd := ⟨["taken", "word", "k"], 2, [
  .fr (.one 2) .rng1 [.int 300] [
    .ite (.and (.cmp .NotIn (.var 1) (.var 0)) (.cmp .NotEq (.var 1) (.str "open"))) [
      .ret (.var 1)] [],
    .asg (.one 1) (.bin .Add (.idx (.str "qxyz") (.bin .Mod (.var 2) (.int 4))) (.blt .str [.var 2]))],
  .ret (.var 1)]⟩
/-- 30: _law_name(state, few) -/
abbrev f30 : Fd := ⟨["state", "few", "word", "k"], 2, [
  .ite (.var 1) [
    .asg (.one 2) (.idx (.str "ab") (.call 25 [.var 0, .int 2])),
    .fr (.one 3) .rng1 [.call 25 [.var 0, .int 3]] [
      .asg (.one 2) (.bin .Add (.var 2) (.idx (.str "ab01") (.call 25 [.var 0, .int 4])))],
    .ret (.var 2)] [],
  .asg (.one 2) (.idx (.str "abcdefghijklmnopqrstuvwxyz") (.call 25 [.var 0, .int 26])),
  .fr (.one 3) .rng1 [.call 25 [.var 0, .int 12]] [
    .asg (.one 2) (.bin .Add (.var 2) (.idx (.str "0123456789abcdefghijklmnopqrstuvwxyz") (.call 25 [.var 0, .int 36])))],
  .ret (.var 2)]⟩
/-- 31: _law_names(state, many) -/
abbrev f31 : Fd := ⟨["state", "many", "k", "few", "names"], 2, [
  .par2 3 4 (.cmp .Eq (.call 25 [.var 0, .int 2]) (.int 0)) (.lst []),
  .fr (.one 2) .rng1 [.var 1] [
    .ex (.mth .append (.var 4) [.call 29 [.var 4, .call 30 [.var 0, .var 3]]])],
  .ret (.var 4)]⟩
/-- 32: _law_news(state, own, names, until) -/
abbrev f32 : Fd := ⟨["state", "own", "names", "until", "name", "begins", "news", "least", "most", "late"], 4, [
  .par2 5 6 (.bin .Add (.lst [.str "open"]) (.blt .list [.var 1])) (.lst []),
  .fr (.one 4) .seq [.var 2] [
    .asg (.one 7) (.bin .Add (.int 1) (.call 25 [.var 0, .bin .Add (.bin .FloorDiv (.var 3) (.int 4)) (.int 1)])),
    .asg (.one 8) (.bin .Add (.var 7) (.idx (.lst [.int 0, .call 25 [.var 0, .int 4], .call 25 [.var 0, .bin .Add (.bin .FloorDiv (.var 3) (.int 3)) (.int 1)]]) (.call 25 [.var 0, .int 3]))),
    .asg (.one 9) (.idx (.lst [.int 0, .int 0, .int 0, .int 1, .call 25 [.var 0, .int 4], .call 25 [.var 0, .bin .Add (.var 3) (.int 1)], .non]) (.call 25 [.var 0, .int 7])),
    .ex (.mth .append (.var 6) [.tup [.var 4, .call 27 [.var 0, .var 5], .var 7, .var 8, .var 9]]),
    .ite (.and (.cmp .IsNot (.var 9) .non) (.cmp .Eq (.var 9) (.int 0))) [
      .ex (.mth .append (.var 5) [.var 4])] []],
  .ret (.var 6)]⟩
/-- 33: _law_two(state, events) -/
abbrev f33 : Fd := ⟨["state", "events", "first", "second"], 2, [
  .asg (.one 2) (.call 25 [.var 0, .blt .len [.var 1]]),
  .asg (.one 3) (.bin .Mod (.blt .int [.bin .Add (.bin .Add (.var 2) (.int 1)) (.call 25 [.var 0, .bin .Sub (.blt .len [.var 1]) (.int 1)])]) (.blt .len [.var 1])),
  .ret (.tup [.idx (.var 1) (.var 2), .idx (.var 1) (.var 3)])]⟩
/-- 34: _law_rules(state, own, news, until) -/
abbrev f34 : Fd := ⟨["state", "own", "news", "until", "k", "events", "rules", "kind", "first", "second", "row", "event"], 4, [
  .par2 5 6 (.bin .Add (.bin .Add (.lst [.str "open"]) (.blt .list [.var 1])) (.lc (.idx (.var 10) (.int 0)) (.one 10) .seq [.var 2] [] [10])) (.lst []),
  .fr (.one 4) .rng1 [.ite (.cmp .Gt (.blt .len [.var 5]) (.int 1)) (.call 25 [.var 0, .int 7]) (.int 0)] [
    .asg (.one 7) (.call 25 [.var 0, .int 6]),
    .asg (.tup [.one 8, .one 9]) (.call 33 [.var 0, .var 5]),
    .ite (.and (.cmp .Lt (.var 7) (.int 3)) (.cmp .NotEq (.var 2) (.lst []))) [
      .asg (.one 8) (.idx (.call 27 [.var 0, .var 2]) (.int 0)),
      .asg (.one 9) (.call 27 [.var 0, .bin .Add (.lc (.var 11) (.one 11) .seq [.var 5] [.and (.cmp .NotEq (.var 11) (.var 8)) (.or (.cmp .Gt (.var 7) (.int 0)) (.cmp .NotEq (.var 11) (.str "open")))] [11]) (.lst [.str "open"])]),
      .ex (.mth .append (.var 6) [.tup [.var 8, .var 9, .call 26 [.var 0, .neg (.int 2), .bin .FloorDiv (.var 3) (.int 3)]]]),
      .ex (.mth .append (.var 6) [.tup [.var 9, .var 8, .call 26 [.var 0, .neg (.int 1), .bin .Add (.bin .FloorDiv (.var 3) (.int 2)) (.int 1)]]])] [
      .ite (.cmp .Eq (.var 7) (.int 3)) [
        .ex (.mth .append (.var 6) [.tup [.str "open", .call 27 [.var 0, .slc (.var 5) (.int 1) .non], .call 25 [.var 0, .bin .Add (.var 3) (.int 1)]]])] [
        .ite (.cmp .Eq (.var 7) (.int 4)) [
          .ex (.mth .append (.var 6) [.tup [.call 27 [.var 0, .slc (.var 5) (.int 1) .non], .str "open", .neg (.call 25 [.var 0, .bin .Add (.bin .FloorDiv (.var 3) (.int 3)) (.int 1)])]])] [
          .ex (.mth .append (.var 6) [.tup [.var 8, .var 9, .call 26 [.var 0, .bin .FloorDiv (.neg (.var 3)) (.int 4), .bin .FloorDiv (.var 3) (.int 2)]]])]]]],
  .ret (.call 28 [.var 0, .var 6])]⟩
/-- 35: _law_draw_day(state, owns, parks, until) -/
abbrev f35 : Fd := ⟨["state", "owns", "parks", "until", "own_many", "park_many", "names", "closing", "own", "news"], 4, [
  .asg (.one 4) (.ite (.cmp .Eq (.call 25 [.var 0, .int 16]) (.int 0)) (.int 0) (.bin .Add (.int 1) (.call 25 [.var 0, .var 1]))),
  .asg (.one 5) (.call 25 [.var 0, .bin .Add (.var 2) (.int 1)]),
  .asg (.one 6) (.call 31 [.var 0, .bin .Add (.var 4) (.var 5)]),
  .asg (.one 7) (.ite (.cmp .Gt (.call 25 [.var 0, .int 3]) (.int 0)) (.var 3) (.call 25 [.var 0, .bin .Add (.var 3) (.int 1)])),
  .asg (.one 8) (.slc (.var 6) .non (.var 4)),
  .asg (.one 9) (.call 32 [.var 0, .var 8, .slc (.var 6) (.var 4) .non, .var 3]),
  .ret (.lst [.var 7, .var 8, .var 9, .call 34 [.var 0, .var 8, .var 9, .var 3]])]⟩
/-- 36: _law_events(raw) -/
abbrev f36 : Fd := ⟨["raw", "row"], 1, [
  .ret (.bin .Add (.bin .Add (.lst [.str "open"]) (.blt .list [.idx (.var 0) (.int 1)])) (.lc (.idx (.var 1) (.int 0)) (.one 1) .seq [.idx (.var 0) (.int 2)] [] [1]))]⟩
/-- 37: _law_given(raw) -/
abbrev f37 : Fd := ⟨["raw", "lines", "event", "name", "begin", "least", "most", "late", "rule"], 1, [
  .asg (.one 1) (.lc (.blt .tuple [.var 8]) (.one 8) .seq [.idx (.var 0) (.int 3)] [] [8]),
  .fr (.tup [.one 3, .one 4, .one 5, .one 6, .one 7]) .seq [.idx (.var 0) (.int 2)] [
    .ex (.mth .append (.var 1) [.tup [.var 4, .var 3, .var 6]]),
    .ex (.mth .append (.var 1) [.tup [.var 3, .var 4, .neg (.var 5)]])],
  .fr (.one 2) .seq [.slc (.call 36 [.var 0]) (.int 1) .non] [
    .ex (.mth .append (.var 1) [.tup [.var 2, .str "open", .int 0]])],
  .fr (.one 2) .seq [.idx (.var 0) (.int 1)] [
    .ex (.mth .append (.var 1) [.tup [.str "open", .var 2, .idx (.var 0) (.int 0)]])],
  .ret (.var 1)]⟩
/-- 38: _law_same(found, due) -/
abbrev f38 : Fd := ⟨["found", "due", "key", "mine", "theirs"], 2, [
  .ite (.blt .isinst [.var 1, .tup [.ty "list", .ty "tuple"]]) [
    .ite (.or (.cmp .NotEq (.blt .isinst [.var 0, .ty "list"]) (.blt .isinst [.var 1, .ty "list"])) (.cmp .NotEq (.blt .isinst [.var 0, .ty "tuple"]) (.blt .isinst [.var 1, .ty "tuple"]))) [
      .ret (.bl false)] [],
    .ret (.and (.cmp .Eq (.blt .len [.var 0]) (.blt .len [.var 1])) (.blt .all [.lc (.call 38 [.var 3, .var 4]) (.tup [.one 3, .one 4]) .zip [.var 0, .var 1] [] [3, 4]]))] [],
  .ite (.blt .isinst [.var 1, .ty "dict"]) [
    .ite (.or (.not (.blt .isinst [.var 0, .ty "dict"])) (.not (.call 38 [.blt .list [.var 0], .blt .list [.var 1]]))) [
      .ret (.bl false)] [],
    .ret (.blt .all [.lc (.call 38 [.idx (.var 0) (.var 2), .idx (.var 1) (.var 2)]) (.one 2) .seq [.var 1] [] [2]])] [],
  .ite (.cmp .Is (.var 1) .non) [
    .ret (.cmp .Is (.var 0) .non)] [],
  .ite (.blt .isinst [.var 1, .ty "bool"]) [
    .ret (.and (.blt .isinst [.var 0, .ty "bool"]) (.cmp .Eq (.var 0) (.var 1)))] [],
  .ite (.blt .isinst [.var 1, .ty "int"]) [
    .ret (.and (.blt .isinst [.var 0, .ty "int"]) (.and (.not (.blt .isinst [.var 0, .ty "bool"])) (.cmp .Eq (.var 0) (.var 1))))] [],
  .ret (.and (.blt .isinst [.var 0, .ty "str"]) (.cmp .Eq (.var 0) (.var 1)))]⟩
/-- 39: _law_copy(thing) -/
abbrev f39 : Fd := ⟨["thing", "found", "key", "one"], 1, [
  .ite (.blt .isinst [.var 0, .ty "list"]) [
    .ret (.lc (.call 39 [.var 3]) (.one 3) .seq [.var 0] [] [3])] [],
  .ite (.blt .isinst [.var 0, .ty "tuple"]) [
    .ret (.blt .tuple [.lc (.call 39 [.var 3]) (.one 3) .seq [.var 0] [] [3]])] [],
  .ite (.blt .isinst [.var 0, .ty "dict"]) [
    .asg (.one 1) (.dct [] []),
    .fr (.one 2) .seq [.var 0] [
      .sub (.var 1) (.var 2) (.call 39 [.idx (.var 0) (.var 2)])],
    .ret (.var 1)] [],
  .ret (.var 0)]⟩
/-- 40: _law_spoil(thing) -/
abbrev f40 : Fd := ⟨["thing", "one", "key"], 1, [
  .ite (.blt .isinst [.var 0, .tup [.ty "list", .ty "tuple"]]) [
    .fr (.one 1) .seq [.blt .list [.var 0]] [
      .ex (.call 40 [.var 1])]] [],
  .ite (.blt .isinst [.var 0, .ty "list"]) [
    .ex (.mth .append (.var 0) [.str "spoilt"])] [],
  .ite (.blt .isinst [.var 0, .ty "dict"]) [
    .fr (.one 2) .seq [.blt .list [.var 0]] [
      .ex (.call 40 [.idx (.var 0) (.var 2)])],
    .sub (.var 0) (.str "spoilt") (.neg (.int 1))] [],
  .ret (.var 0)]⟩
/-- 41: _law_day_of(raw) -/
abbrev f41 : Fd := ⟨["raw", "some"], 1, [
  .asg (.one 1) (.call 39 [.var 0]),
  .ret (.new "Day" 15 [.idx (.var 1) (.int 0), .idx (.var 1) (.int 1), .idx (.var 1) (.int 2), .idx (.var 1) (.int 3)])]⟩
/-- 42: _law_refused(odd) -/
abbrev f42 : Fd := ⟨["odd", "e"], 1, [
  .tryAs [
    .ret (.lst [.str "told", .call 23 [.var 0]])] "BadDay" 1 "day" "day"]⟩
/-- 43: law(script) -/
abbrev f43 : Fd := ⟨["script", "state", "turn", "raw", "day", "due", "found", "closing", "other", "odd"], 1, [
  .asg (.one 1) (.call 24 [.var 0]),
  .fr (.one 2) .rng1 [.int 3] [
    .asg (.one 3) (.call 35 [.var 1, .int 6, .int 5, .ite (.cmp .Eq (.call 25 [.var 1, .int 2]) (.int 0)) (.int 5000) (.int 30)]),
    .ite (.cmp .NotEq (.idx (.var 3) (.int 3)) (.lst [])) [
      .ex (.mth .append (.idx (.var 3) (.int 3)) [.idx (.idx (.var 3) (.int 3)) (.int 0)])] [],
    .asg (.one 4) (.call 41 [.var 3]),
    .asg (.one 5) (.call 37 [.var 3]),
    .asg (.one 6) (.call 23 [.var 4]),
    .ite (.not (.call 38 [.var 6, .var 5])) [
      .ret (.bl false)] [],
    .ex (.call 40 [.var 6]),
    .ite (.or (.not (.call 38 [.call 23 [.var 4], .var 5])) (.not (.call 38 [.meth "Day" "rules" 19 (.var 4) [], .idx (.var 3) (.int 3)]))) [
      .ret (.bl false)] [],
    .asg (.one 7) (.call 25 [.var 1, .int 5001]),
    .asg (.one 8) (.new "Day" 15 [.var 7, .blt .list [.idx (.var 3) (.int 1)], .blt .list [.idx (.var 3) (.int 2)], .lst []]),
    .ite (.or (.not (.call 38 [.call 23 [.var 8], .call 37 [.lst [.var 7, .idx (.var 3) (.int 1), .idx (.var 3) (.int 2), .lst []]]])) (.not (.call 38 [.call 23 [.var 4], .var 5]))) [
      .ret (.bl false)] []],
  .ret (.blt .all [.lc (.call 38 [.call 42 [.var 9], .lst [.str "day", .var 9]]) (.one 9) .seq [.tup [.non, .int 5, .str "day", .lst [.int 4, .lst [], .lst [], .lst []], .dct [] []]] [] [9]])]⟩
def tb : List Fd := [f0, f1, f2, f3, f4, f5, f6, f7, f8, f9, f10, f11, f12, f13, f14, f15, f16, f17, f18, f19, f20, f21, f22, f23, f24, f25, f26, f27, f28, f29, f30, f31, f32, f33, f34, f35, f36, f37, f38, f39, f40, f41, f42, f43]
abbrev lawN : Nat := 43
theorem chk : Chk px tb := Chk.of (by kernel_rfl) (by kernel_rfl)
end K12
set_option Elab.async false
set_option linter.all false
set_option maxRecDepth 100000
set_option maxHeartbeats 0
namespace K12
open PySem PySem.Spec PyProof.Rows L2 PL
theorem dp : DayPx px where
  cls := by decide +kernel
  a1 := by decide +kernel
  a2 := by decide +kernel
  a3 := by decide +kernel
  a4 := by decide +kernel
  a5 := by decide +kernel
  r1 := by decide +kernel
  r2 := by decide +kernel
  r3 := by decide +kernel
  r4 := by decide +kernel
  r5 := by decide +kernel
theorem tb_ok : Tb12 tb where
  d := ⟨rfl, rfl, rfl, rfl, rfl, rfl, rfl, rfl, rfl, rfl, rfl, rfl, rfl, rfl, rfl⟩
  m := ⟨rfl, rfl, rfl, rfl, rfl, rfl, rfl, rfl⟩
  dr := ⟨rfl, rfl, rfl, rfl, rfl, rfl, rfl, rfl, rfl, rfl, rfl, rfl⟩
  le := rfl
  lg := rfl
  s := rfl
  c := rfl
  sp := rfl
  dy := rfl
  rf := rfl
  l := rfl
theorem law_ok (ns : List Int) (h : ns.length ≤ 63) : cPhi px tb 40 lawN [.scr ns] (fun r _ => r = .b true) fun _ _ => False := by
  obtain ⟨os, e⟩ := law12_run (n := 40) (ns := ns) dp (by decide +kernel) tb_ok (by omega)
  refine run_ok 40 43 [.scr ns] _ _ ?_
  rw [e]
  exact rfl
end K12
set_option Elab.async false
set_option linter.all false
set_option maxRecDepth 100000
set_option maxHeartbeats 0
namespace K12
open PySem PySem.Spec PyProof.Rows L2 PL
def lawIx : Nat := PR.main.body.length - 1
def loose : List PySem.Str := looseOf PR.main.scope
abbrev R : PySem.W.OpenRow := PySem.W.OpenLaw.row PySem.Challenge.rw_dayled_k12_given_lines
abbrev hk : PySem.W.Hook := hookP 5 px
def ob (s : PySem.W.SharedT) : AlP := obsPG 5 px (HandSHeadRun.getT s)
theorem ob_eq (s : PySem.W.SharedT) : ob s = hk.obs s.abs := obsPG_eq (HandSHeadRun.getT_eq s)
theorem run (w : World) : HandSHeadRun.RunEq R (PySem.W.view R.prog [lawIx]) hk ob 8000 loose w := by
  intro os
  kernel_rfl
theorem law_d : (px.ds[lawN]?).map (fun d => (d.at_, parsOf d)) = some ((("law" : PySem.Str), none), [("script" : PySem.Str)]) := by kernel_rfl
end K12
set_option Elab.async false
set_option linter.all false
set_option maxRecDepth 100000
set_option maxHeartbeats 0
open PySem PySem.W PySem.Calls PyProof.Rows
theorem PySem.Challenge.cw_dayled_k12_given_lines_holds : PySem.Challenge.rw_dayled_k12_given_lines.Holds := by
  w_on; o_law
  refine HandSHeadRun.head_any (r := OpenLaw.row PySem.Challenge.rw_dayled_k12_given_lines) (q := view (OpenLaw.row PySem.Challenge.rw_dayled_k12_given_lines).prog [K12.lawIx]) (H := K12.hk) (ob := K12.ob) (M := 8000) (loose := K12.loose) (d := HandSHeadRun.topDef (OpenLaw.row PySem.Challenge.rw_dayled_k12_given_lines).prog K12.lawIx) (kwd := []) K12.ob_eq
    (by kernel_rfl) (fun s => by kernel_rfl) K12.run (by kernel_rfl) (by kernel_rfl) (by kernel_rfl) (by rfl) (by first | assumption | decide +kernel) (by decide +kernel) ⟨rfl, rfl, rfl, rfl, rfl, by decide +kernel⟩ ?hw ?hc
  case hw => w_witness2
  case hc =>
    refine PL.walk_w (l := PySem.Challenge.rw_dayled_k12_given_lines) (n := 63) (k := 2 * 40) (x := "script") rfl (by decide) (by kernel_rfl) ⟨rfl, by decide, by decide⟩ ?F
    intro w mg fa h Y G hmg0
    obtain ⟨d, h1, h2, h3⟩ := PL.d_of K12.law_d
    have hmg : mg ("law" : PySem.Str) = some (.ref fa) := by
      have e : (HandSHeadRun.topDef (OpenLaw.row PySem.Challenge.rw_dayled_k12_given_lines).prog K12.lawIx).name = ("law" : PySem.Str) := by kernel_rfl
      rw [← e]
      exact hmg0
    exact PL.law_facts K12.chk h1 h2 h3 K12.law_ok Y G hmg
